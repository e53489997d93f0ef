import PyProof.Rows.All
import Wide.All
import OpenK.AllK
import Wide.FinOn
import HandS.ForMost
import HandS.Wide
import HandS.Gcd
import HandS.DictComp
import HandS.IsInst
import HandS.Finally
import HandS.TryOnly
import HandS.Text
import HandS.More
import KE.GoesEnumKw
import PySem.Challenge.RW_networth_k79_facts_with_spans
set_option Elab.async false
set_option linter.all false
set_option maxRecDepth 100000
set_option maxHeartbeats 4000000
/-! DL: data in place of heaps. A def's walk over data (D), frozen or owned. -/
namespace DL
open PySem PySem.Spec PyProof.Rows L2
inductive Kd where
  | tup | lst | dct (ks : List Key) | ins (C : Addr) (fs : List Str)
inductive D where
  | non | bl (b : Bool) | int (i : Int) | str (x : Str) | nd (k : Kd) (ds : List D)
def NodeAt (K : PySem.W.Frag) (G : Hp) (a : Addr) (vs : List V) : Kd → Prop
  | .tup => SqT K G a vs
  | .lst => SqL K G a vs
  | .dct ks => ks.length = vs.length ∧ ks.Nodup ∧ ∃ od, G a = some (.frz od (.dK (ks.zip vs)))
  | .ins C fs => fs.length = vs.length ∧ ∃ dx, G a = some (.ins C dx (fs.zip vs))
mutual
inductive Rep (K : PySem.W.Frag) (G : Hp) : V → D → Prop
  | non : Rep K G .non .non
  | bl (b : Bool) : Rep K G (.bl b) (.bl b)
  | int (i : Int) : Rep K G (.int i) (.int i)
  | str (x : Str) : Rep K G (.str x) (.str x)
  | nd {a : Addr} {vs : List V} {k : Kd} {ds : List D} : NodeAt K G a vs k → Reps K G vs ds → Rep K G (.ref a) (.nd k ds)
inductive Reps (K : PySem.W.Frag) (G : Hp) : List V → List D → Prop
  | nil : Reps K G [] []
  | cons {v : V} {d : D} {vs : List V} {ds : List D} : Rep K G v d → Reps K G vs ds → Reps K G (v :: vs) (d :: ds)
end
theorem SqT.mono {K : PySem.W.Frag} {G G' : Hp} {a : Addr} {xs : List V} (e : Same G G') (h : SqT K G a xs) : SqT K G' a xs := by
  rcases h with (h | ⟨o, h⟩) | h
  · exact .inl (.inl (e _ _ h))
  · exact .inl (.inr ⟨o, e _ _ h⟩)
  · exact .inr h
theorem NodeAt.mono {K : PySem.W.Frag} {G G' : Hp} {a : Addr} {vs : List V} (e : Same G G') : ∀ {k : Kd}, NodeAt K G a vs k → NodeAt K G' a vs k
  | .tup, h => SqT.mono e h
  | .lst, h => e.seq h
  | .dct ks, ⟨h1, h2, od, h3⟩ => ⟨h1, h2, od, e _ _ h3⟩
  | .ins C fs, ⟨h1, dx, h2⟩ => ⟨h1, dx, e _ _ h2⟩
mutual
theorem Rep.mono {K : PySem.W.Frag} {G G' : Hp} (e : Same G G') : ∀ {v : V} {d : D}, Rep K G v d → Rep K G' v d
  | _, _, .non => .non
  | _, _, .bl b => .bl b
  | _, _, .int i => .int i
  | _, _, .str x => .str x
  | _, _, .nd n r => .nd (n.mono e) (Reps.mono e r)
theorem Reps.mono {K : PySem.W.Frag} {G G' : Hp} (e : Same G G') : ∀ {vs : List V} {ds : List D}, Reps K G vs ds → Reps K G' vs ds
  | _, _, .nil => .nil
  | _, _, .cons h t => .cons (Rep.mono e h) (Reps.mono e t)
end
theorem Reps.length {K : PySem.W.Frag} {G : Hp} : ∀ {vs : List V} {ds : List D}, Reps K G vs ds → vs.length = ds.length
  | _, _, .nil => rfl
  | _, _, .cons _ t => by simp [Reps.length t]
theorem Reps.get {K : PySem.W.Frag} {G : Hp} : ∀ {vs : List V} {ds : List D} {i : Nat} {d : D}, Reps K G vs ds → ds[i]? = some d → ∃ v, vs[i]? = some v ∧ Rep K G v d
  | _, _, _, _, .nil, e => by simp at e
  | _, _, 0, _, .cons r _, e => by simp at e; subst e; exact ⟨_, rfl, r⟩
  | _, _, i + 1, _, .cons _ t, e => by
    obtain ⟨v, h1, h2⟩ := Reps.get (i := i) t (by simpa using e)
    exact ⟨v, by simpa using h1, h2⟩
theorem Reps.get' {K : PySem.W.Frag} {G : Hp} : ∀ {vs : List V} {ds : List D} {i : Nat} {v : V}, Reps K G vs ds → vs[i]? = some v → ∃ d, ds[i]? = some d ∧ Rep K G v d
  | _, _, _, _, .nil, e => by simp at e
  | _, _, 0, _, .cons r _, e => by simp at e; subst e; exact ⟨_, rfl, r⟩
  | _, _, i + 1, _, .cons _ t, e => by
    obtain ⟨v, h1, h2⟩ := Reps.get' (i := i) t (by simpa using e)
    exact ⟨v, by simpa using h1, h2⟩
theorem Reps.append {K : PySem.W.Frag} {G : Hp} : ∀ {vs ws : List V} {ds es : List D}, Reps K G vs ds → Reps K G ws es → Reps K G (vs ++ ws) (ds ++ es)
  | _, _, _, _, .nil, h => h
  | _, _, _, _, .cons r t, h => .cons r (Reps.append t h)
theorem Reps.take {K : PySem.W.Frag} {G : Hp} : ∀ {vs : List V} {ds : List D} (n : Nat), Reps K G vs ds → Reps K G (vs.take n) (ds.take n)
  | _, _, 0, _ => .nil
  | _, _, _ + 1, .nil => .nil
  | _, _, n + 1, .cons r t => .cons r (Reps.take n t)
theorem Reps.drop {K : PySem.W.Frag} {G : Hp} : ∀ {vs : List V} {ds : List D} (n : Nat), Reps K G vs ds → Reps K G (vs.drop n) (ds.drop n)
  | _, _, 0, r => r
  | _, _, _ + 1, .nil => .nil
  | _, _, n + 1, .cons _ t => Reps.drop n t
/-! ### values, cells, states -/
inductive E where
  | d (x : D) | r (k : Nat)
inductive Cell where
  | gone | nd (k : Kd) (es : List E)
/-- slots, cells; ar: as many of the first cells are the arguments' -/
structure S where
  sl : List (Option E)
  ce : List Cell
  ar : Nat := 0
def nth {α : Type} : List α → Nat → Option α
  | [], _ => none
  | x :: _, 0 => some x
  | _ :: r, n + 1 => nth r n
theorem nth_eq {α : Type} : ∀ (l : List α) (n : Nat), nth l n = l[n]?
  | [], n => by simp [nth]
  | x :: r, 0 => by simp [nth]
  | x :: r, n + 1 => by simp [nth, nth_eq r n]
def setN {α : Type} : List α → Nat → α → List α
  | [], _, _ => []
  | _ :: r, 0, y => y :: r
  | x :: r, n + 1, y => x :: setN r n y
theorem setN_eq {α : Type} : ∀ (l : List α) (n : Nat) (y : α), setN l n y = l.set n y
  | [], n, y => by simp [setN]
  | x :: r, 0, y => by simp [setN]
  | x :: r, n + 1, y => by simp [setN, setN_eq r n y]
abbrev VE (K : PySem.W.Frag) (G : Hp) (as : List Addr) (v : V) : E → Prop
  | .d x => Rep K G v x
  | .r k => ∃ a, as[k]? = some a ∧ v = .ref a
theorem pre_get {α : Type} {as as' : List α} (p : as <+: as') {k : Nat} {a : α} (h : as[k]? = some a) : as'[k]? = some a := by
  obtain ⟨t, rfl⟩ := p
  rw [List.getElem?_append_left (List.getElem?_eq_some_iff.mp h).1]
  exact h
theorem VE.mono {K : PySem.W.Frag} {G G' : Hp} {as as' : List Addr} (p : as <+: as') (e : Same G G') {v : V} : ∀ {x : E}, VE K G as v x → VE K G' as' v x
  | .d _, h => Rep.mono e h
  | .r _, ⟨a, h1, h2⟩ => ⟨a, pre_get p h1, h2⟩
abbrev VEs (K : PySem.W.Frag) (G : Hp) (as : List Addr) : List V → List E → Prop := Paired (VE K G as)
theorem VEs.mono {K : PySem.W.Frag} {G G' : Hp} {as as' : List Addr} (p : as <+: as') (e : Same G G') {vs : List V} {es : List E} (h : VEs K G as vs es) : VEs K G' as' vs es :=
  Paired.mapP h fun _ _ q => q.mono p e
theorem VEs.ofReps {K : PySem.W.Frag} {G : Hp} {as : List Addr} : ∀ {vs : List V} {ds : List D}, Reps K G vs ds → VEs K G as vs (ds.map .d)
  | _, _, .nil => .nil
  | _, _, .cons h t => .cons h (VEs.ofReps t)
theorem VEs.reps {K : PySem.W.Frag} {G : Hp} {as : List Addr} : ∀ {vs : List V} {ds : List D}, VEs K G as vs (ds.map .d) → Reps K G vs ds
  | [], [], _ => .nil
  | _ :: _, _ :: _, .cons h t => .cons h (VEs.reps t)
theorem VEs.get {K : PySem.W.Frag} {G : Hp} {as : List Addr} {vs : List V} {es : List E} {i : Nat} {v : V} (h : VEs K G as vs es) (e : vs[i]? = some v) : ∃ x, es[i]? = some x ∧ VE K G as v x := paired_get h e
theorem VEs.get' {K : PySem.W.Frag} {G : Hp} {as : List Addr} : ∀ {vs : List V} {es : List E} {i : Nat} {x : E}, VEs K G as vs es → es[i]? = some x → ∃ v, vs[i]? = some v ∧ VE K G as v x
  | _, _, _, _, .nil, e => by simp at e
  | _, _, 0, _, .cons r _, e => by simp at e; subst e; exact ⟨_, rfl, r⟩
  | _, _, i + 1, _, .cons _ t, e => by
    obtain ⟨v, h1, h2⟩ := VEs.get' (i := i) t (by simpa using e)
    exact ⟨v, by simpa using h1, h2⟩
def CellAt (H : Hp) (a : Addr) (vs : List V) : Kd → Prop
  | .tup => False
  | .lst => H a = some (.lst vs)
  | .dct ks => ks.length = vs.length ∧ ks.Nodup ∧ ∃ od, H a = some (.frz od (.dK (ks.zip vs)))
  | .ins C fs => fs.length = vs.length ∧ ∃ dx, H a = some (.ins C dx (fs.zip vs))
theorem CellAt.keep {H H' : Hp} {a : Addr} {vs : List V} (h : ∀ o, H a = some o → H' a = some o) : ∀ {k : Kd}, CellAt H a vs k → CellAt H' a vs k
  | .tup, x => x
  | .lst, x => h _ x
  | .dct ks, ⟨x1, x2, od, x3⟩ => ⟨x1, x2, od, h _ x3⟩
  | .ins C fs, ⟨x, dx, y⟩ => ⟨x, dx, h _ y⟩
theorem CellAt.some {H : Hp} {a : Addr} {vs : List V} : ∀ {k : Kd}, CellAt H a vs k → ∃ o, H a = some o
  | .tup, x => x.elim
  | .lst, x => ⟨_, x⟩
  | .dct ks, ⟨_, _, _, x⟩ => ⟨_, x⟩
  | .ins C fs, ⟨_, dx, y⟩ => ⟨_, y⟩
/-- a def's entry: what was frozen, the heap, the owned arguments; ow: the slots that own -/
structure Fr where
  G0 : Hp
  H0 : Hp
  A0 : List Addr
structure Cz (X : Cx) (F : Fr) (as : List Addr) (G H : Hp) (σ : L2.St) (s : S) : Prop where
  sub : Same G H
  base : Same F.G0 G
  new : ∀ b, F.G0 b = none → F.H0 b ≠ none → G b = none
  frame : ∀ b o, F.H0 b = some o → b ∉ F.A0 → H b = some o
  len : as.length = s.ce.length
  pre : F.A0 <+: as
  nd : as.Nodup
  own : ∀ (k : Nat) (a : Addr) (kd : Kd) (es : List E), as[k]? = some a → s.ce[k]? = some (.nd kd es) → G a = none
  fresh : ∀ a ∈ as, a ∈ F.A0 ∨ F.H0 a = none
  there : ∀ a ∈ as, H a ≠ none
  cells : ∀ (k : Nat) (kd : Kd) (es : List E), s.ce[k]? = some (.nd kd es) → ∃ a vs, as[k]? = some a ∧ CellAt H a vs kd ∧ VEs X.K G as vs es
  slots : ∀ (i : Nat) (e : E), s.sl[i]? = some (some e) → ∃ v, σ[i]? = some (some v) ∧ VE X.K G as v e
  slen : s.sl.length = σ.length
  har : F.A0.length = s.ar
/-- what an answer must bear: further owned addresses, more frozen -/
structure Ext (as as' : List Addr) (G G' : Hp) : Prop where
  pre : as <+: as'
  sub : Same G G'
theorem Ext.refl (as : List Addr) (G : Hp) : Ext as as G G := ⟨List.prefix_refl _, Same.refl _⟩
theorem Ext.trans {a b c : List Addr} {G1 G2 G3 : Hp} (x : Ext a b G1 G2) (y : Ext b c G2 G3) : Ext a c G1 G3 := ⟨x.pre.trans y.pre, x.sub.trans y.sub⟩
theorem Ext.ve {K : PySem.W.Frag} {a b : List Addr} {G G' : Hp} (x : Ext a b G G') {v : V} {e : E} (h : VE K G a v e) : VE K G' b v e := h.mono x.pre x.sub
theorem Ext.ves {K : PySem.W.Frag} {a b : List Addr} {G G' : Hp} (x : Ext a b G G') {v : List V} {e : List E} (h : VEs K G a v e) : VEs K G' b v e := h.mono x.pre x.sub
/-! ### what the code does, as readings -/
def semE (X : Cx) (e : Expr) : TE := fun σ H Q => ∀ pins s, Inv X pins σ H s → wpAny (model X.prog X.w) X.A (eval e X.env) (EP X pins σ Q) X.xe s
theorem pe_sem (X : Cx) (e : Expr) : PE X e (semE X e) := ⟨fun pins s σ H Q I h => h pins s I⟩
theorem PE.sem {X : Cx} {e : Expr} {t : TE} (h : PE X e t) {σ : L2.St} {H : Hp} {Q : VK} (q : t σ H Q) : semE X e σ H Q := fun pins s I => h.run pins s σ H Q I q
def semT (X : Cx) (e : Expr) : TT := fun σ H Q => ∀ pins s, Inv X pins σ H s → wpAny (model X.prog X.w) X.A (isTrue e X.env (eval e X.env)) (TP X pins σ Q) X.xe s
theorem pt_sem (X : Cx) (e : Expr) : PT X e (semT X e) := ⟨fun pins s σ H Q I h => h pins s I⟩
theorem PT.sem {X : Cx} {e : Expr} {t : TT} (h : PT X e t) {σ : L2.St} {H : Hp} {Q : Bool → Hp → Prop} (q : t σ H Q) : semT X e σ H Q := fun pins s I => h.run pins s σ H Q I q
def semW (X : Cx) (e : Expr) : TT := fun σ H Q => ∀ whole pins s, Inv X pins σ H s → wpAny (model X.prog X.w) X.A (isTrue e X.env whole) (TP X pins σ Q) X.xe s
theorem pw_sem (X : Cx) (e : Expr) : PW X e (semW X e) := ⟨fun wh pins s σ H Q I h => h wh pins s I⟩
theorem PW.sem {X : Cx} {e : Expr} {t : TT} (h : PW X e t) {σ : L2.St} {H : Hp} {Q : Bool → Hp → Prop} (q : t σ H Q) : semW X e σ H Q := fun wh pins s I => h.run wh pins s σ H Q I q
def semA (X : Cx) (es : List Expr) : TA := fun σ H Q => ∀ (pos : Pos) pins s, Inv X pins σ H s → wpAny (model X.prog X.w) X.A (spliced (backTo pos (starEach es X.env))) (AP X pins σ Q) X.xe s
theorem pa_sem (X : Cx) (es : List Expr) : PA X es (semA X es) := ⟨fun pos pins s σ H Q I h => h pos pins s I⟩
theorem PA.sem {X : Cx} {es : List Expr} {t : TA} (h : PA X es t) {σ : L2.St} {H : Hp} {Q : List V → Hp → Prop} (q : t σ H Q) : semA X es σ H Q := fun pos pins s I => h.run pos pins s σ H Q I q
def semS (X : Cx) (st : Stmt) : TS := fun D σ H => ∀ pins s, Inv X pins σ H s → wpAny (model X.prog X.w) X.A (exec st X.env) (SP X pins D) X.xe s
theorem ps_sem (X : Cx) (st : Stmt) : PS X st (semS X st) := ⟨fun pins s σ H D I h => h pins s I⟩
theorem PS.sem {X : Cx} {st : Stmt} {t : TS} (h : PS X st t) {σ : L2.St} {H : Hp} {D : Ends} (q : t D σ H) : semS X st D σ H := fun pins s I => h.run pins s σ H D I q
def semSs (X : Cx) (st : List Stmt) : TS := fun D σ H => ∀ pins s, Inv X pins σ H s → wpAny (model X.prog X.w) X.A (execs st X.env) (SP X pins D) X.xe s
theorem pss_sem (X : Cx) (st : List Stmt) : PSs X st (semSs X st) := ⟨fun pins s σ H D I h => h pins s I⟩
theorem PSs.sem {X : Cx} {st : List Stmt} {t : TS} (h : PSs X st t) {σ : L2.St} {H : Hp} {D : Ends} (q : t D σ H) : semSs X st D σ H := fun pins s I => h.run pins s σ H D I q
def semG (X : Cx) (tg : Expr) : TG := fun v σ H Q => ∀ pins s u, Inv X pins σ H s → RelV v u → wpAny (model X.prog X.w) X.A (assign tg X.env u) (fun _ s' => ∃ σ' H', Inv X pins σ' H' s' ∧ Q σ' H') X.xe s
theorem pg_sem (X : Cx) (tg : Expr) : PG X tg (semG X tg) := ⟨fun pins s σ H v u Q I r h => h pins s u I r⟩
theorem PG.sem {X : Cx} {tg : Expr} {t : TG} (h : PG X tg t) {v : V} {σ : L2.St} {H : Hp} {Q : L2.St → Hp → Prop} (q : t v σ H Q) : semG X tg v σ H Q := fun pins s u I r => h.run pins s σ H v u Q I r q
def semR2 (X : Cx) (f : Value → Value → Sem Value) : R2 := fun x y H Q => ∀ pins s σ v u, Inv X pins σ H s → RelV x v → RelV y u → wpAny (model X.prog X.w) X.A (f v u) (EP X pins σ Q) X.xe s
theorem op_sem (X : Cx) (f : Value → Value → Sem Value) : OpR X f (semR2 X f) := fun pins s σ H x y v u Q I rx ry h => h pins s σ v u I rx ry
/-! ### judgements over data -/
section
variable (X : Cx) (F : Fr)
def JE (e : Expr) (s : S) (Φ : E → S → Prop) : Prop := ∀ as G H σ (Q : VK), Cz X F as G H σ s →
  (∀ v as' G' H' e' s', Cz X F as' G' H' σ s' → Ext as as' G G' → VE X.K G' as' v e' → Φ e' s' → Q v H') → semE X e σ H Q
def JT (e : Expr) (s : S) (Φ : Bool → S → Prop) : Prop := ∀ as G H σ (Q : Bool → Hp → Prop), Cz X F as G H σ s →
  (∀ b as' G' H' s', Cz X F as' G' H' σ s' → Ext as as' G G' → Φ b s' → Q b H') → semT X e σ H Q
def JW (e : Expr) (s : S) (Φ : Bool → S → Prop) : Prop := ∀ as G H σ (Q : Bool → Hp → Prop), Cz X F as G H σ s →
  (∀ b as' G' H' s', Cz X F as' G' H' σ s' → Ext as as' G G' → Φ b s' → Q b H') → semW X e σ H Q
def JA (es : List Expr) (s : S) (Φ : List E → S → Prop) : Prop := ∀ as G H σ (Q : List V → Hp → Prop), Cz X F as G H σ s →
  (∀ vs as' G' H' es' s', Cz X F as' G' H' σ s' → Ext as as' G G' → VEs X.K G' as' vs es' → Φ es' s' → Q vs H') → semA X es σ H Q
/-- an operation on two values -/
def JR (f : Value → Value → Sem Value) (e1 e2 : E) (s : S) (Φ : E → S → Prop) : Prop := ∀ as G H σ x y (Q : VK), Cz X F as G H σ s → VE X.K G as x e1 → VE X.K G as y e2 →
  (∀ v as' G' H' e' s', Cz X F as' G' H' σ s' → Ext as as' G G' → VE X.K G' as' v e' → Φ e' s' → Q v H') → semR2 X f x y H Q
/-- an operation on one value, or several: what comes of them is wanted by r -/
def JV (r : List V → Hp → VK → Prop) (es : List E) (s : S) (Φ : E → S → Prop) : Prop := ∀ as G H σ vs (Q : VK), Cz X F as G H σ s → VEs X.K G as vs es →
  (∀ v as' G' H' e' s', Cz X F as' G' H' σ s' → Ext as as' G G' → VE X.K G' as' v e' → Φ e' s' → Q v H') → r vs H Q
/-- a store into a target -/
def JG (tg : Expr) (e : E) (s : S) (Φ : S → Prop) : Prop := ∀ as G H σ v (Q : L2.St → Hp → Prop), Cz X F as G H σ s → VE X.K G as v e →
  (∀ as' G' H' σ' s', Cz X F as' G' H' σ' s' → Ext as as' G G' → Φ s' → Q σ' H') → semG X tg v σ H Q
structure Po where
  nx : S → Prop
  rt : E → S → Prop
  bk : S → Prop := fun _ => False
  ct : S → Prop := fun _ => False
/-- the ends that a statement's state must reach, from as, G on -/
structure DOk (as : List Addr) (G : Hp) (P : Po) (D : Ends) : Prop where
  nx : ∀ as' G' H' σ' s', Cz X F as' G' H' σ' s' → Same G G' → P.nx s' → D.nx σ' H'
  rt : ∀ v as' G' H' σ' e' s', Cz X F as' G' H' σ' s' → Same G G' → VE X.K G' as' v e' → P.rt e' s' → D.rt v H'
  bk : ∀ as' G' H' σ' s', Cz X F as' G' H' σ' s' → Same G G' → P.bk s' → D.bk σ' H'
  ct : ∀ as' G' H' σ' s', Cz X F as' G' H' σ' s' → Same G G' → P.ct s' → D.ct σ' H'
def JS (st : Stmt) (s : S) (P : Po) : Prop := ∀ as G H σ D, Cz X F as G H σ s → DOk X F as G P D → semS X st D σ H
def JSs (st : List Stmt) (s : S) (P : Po) : Prop := ∀ as G H σ D, Cz X F as G H σ s → DOk X F as G P D → semSs X st D σ H
end
variable {X : Cx} {F : Fr} {s : S}
theorem DOk.ext {as as' : List Addr} {G G' : Hp} {P : Po} {D : Ends} (h : DOk X F as G P D) (x : Ext as as' G G') : DOk X F as' G' P D :=
  ⟨fun a b c d e f g i => h.nx a b c d e f (x.sub.trans g) i, fun v a b c d e f g i j k => h.rt v a b c d e f g (x.sub.trans i) j k, fun a b c d e f g i => h.bk a b c d e f (x.sub.trans g) i, fun a b c d e f g i => h.ct a b c d e f (x.sub.trans g) i⟩
theorem DOk.exs {as as' : List Addr} {G G' : Hp} {P : Po} {D : Ends} (h : DOk X F as G P D) (x : Same G G') : DOk X F as' G' P D :=
  ⟨fun a b c d e f g i => h.nx a b c d e f (x.trans g) i, fun v a b c d e f g i j k => h.rt v a b c d e f g (x.trans i) j k, fun a b c d e f g i => h.bk a b c d e f (x.trans g) i, fun a b c d e f g i => h.ct a b c d e f (x.trans g) i⟩
theorem JE.mono {e : Expr} {Φ Ψ : E → S → Prop} (h : JE X F e s Φ) (m : ∀ e s, Φ e s → Ψ e s) : JE X F e s Ψ := fun as G H σ Q c k => h as G H σ Q c fun v as' G' H' e' s' c' x ve q => k v as' G' H' e' s' c' x ve (m _ _ q)
theorem JSs.mono {e : List Stmt} {P P' : Po} (h : JSs X F e s P) (m1 : ∀ s, P.nx s → P'.nx s) (m2 : ∀ e s, P.rt e s → P'.rt e s) (m3 : ∀ s, P.bk s → P'.bk s) (m4 : ∀ s, P.ct s → P'.ct s) : JSs X F e s P' := fun as G H σ D c k =>
  h as G H σ D c ⟨fun a b c d e f g i => k.nx a b c d e f g (m1 _ i), fun v a b c d e f g i j q => k.rt v a b c d e f g i j (m2 _ _ q), fun a b c d e f g i => k.bk a b c d e f g (m3 _ i), fun a b c d e f g i => k.ct a b c d e f g (m4 _ i)⟩
/-! ### expressions -/
section
variable {e a b c : Expr} {es rest : List Expr} {Φ : E → S → Prop} {Ψ : Bool → S → Prop} {pos p : Pos}
/-- by a rule of the layer whose reading leaves the heap as it is -/
theorem je_of {t : TE} (h : PE X e t) (k : ∀ as G H σ (Q : VK), Cz X F as G H σ s → (∀ v as' G' H' e' s', Cz X F as' G' H' σ s' → Ext as as' G G' → VE X.K G' as' v e' → Φ e' s' → Q v H') → t σ H Q) : JE X F e s Φ :=
  fun as G H σ Q c q => PE.sem h (k as G H σ Q c q)
structure NmR (X : Cx) (i : Nat) (x : Str) : Prop where
  nm : X.N[i]? = some x
  vis : Vis X.env.scope x
  dbg : (x == ("__debug__" : Str)) = false
  cdt : (x == ("__classdict__" : Str)) = false
theorem je_name {i : Nat} {x : Str} {e' : E} (n : NmR X i x) (h : nth s.sl i = some (some e')) (q : Φ e' s) : JE X F (.Name x pos) s Φ :=
  je_of (pe_var n.nm n.vis n.dbg n.cdt) fun as G H σ Q c k => by
    rw [nth_eq] at h
    obtain ⟨v, h1, h2⟩ := c.slots i e' h
    exact ⟨v, h1, k v as G H e' s c (Ext.refl _ _) h2 q⟩
theorem je_int {i : Int} {j : Nat} (q : Φ (.d (.int i)) s) : JE X F (.Constant (.int i) j pos) s Φ := je_of pe_int fun as G H σ Q c k => k _ as G H _ s c (Ext.refl _ _) (Rep.int i) q
theorem je_bl {i : Bool} {j : Nat} (q : Φ (.d (.bl i)) s) : JE X F (.Constant (.bool i) j pos) s Φ := je_of pe_bl fun as G H σ Q c k => k _ as G H _ s c (Ext.refl _ _) (Rep.bl i) q
theorem je_non {j : Nat} (q : Φ (.d .non) s) : JE X F (.Constant .none j pos) s Φ := je_of pe_non fun as G H σ Q c k => k _ as G H _ s c (Ext.refl _ _) Rep.non q
theorem je_str {x : Str} {j : Nat} (q : Φ (.d (.str x)) s) : JE X F (.Constant (.str x) j pos) s Φ := je_of pe_str fun as G H σ Q c k => k _ as G H _ s c (Ext.refl _ _) (Rep.str x) q
/-- a module's constant -/
structure Gc (X : Cx) (x : Str) (d : D) : Prop where
  gl : Gl X x
  mg : ∃ v u, X.mg x = some u ∧ RelV v u ∧ Rep X.K (fun _ => none) v d
  dbg : (x == ("__debug__" : Str)) = false
theorem je_glob {x : Str} {d : D} (g : Gc X x d) (q : Φ (.d d) s) : JE X F (.Name x pos) s Φ := by
  obtain ⟨v, u, h1, h2, h3⟩ := g.mg
  exact je_of (pe_glob g.gl h1 h2 g.dbg) fun as G H σ Q c k => k _ as G H _ s c (Ext.refl _ _) (h3.mono (by intro _ _ z; cases z)) q
theorem je_bin {op : Operator} (h : JE X F a s fun e1 s1 => JE X F b s1 fun e2 s2 => JR X F (binaryOp op) e1 e2 s2 Φ) : JE X F (.BinOp a op b pos) s Φ :=
  je_of (pe_op (op_sem X _) (pe_sem X a) (pe_sem X b)) fun as G H σ Q c k => h as G H σ _ c fun v1 as1 G1 H1 e1 s1 c1 x1 ve1 h1 => h1 as1 G1 H1 σ _ c1 fun v2 as2 G2 H2 e2 s2 c2 x2 ve2 h2 =>
    h2 as2 G2 H2 σ _ _ Q c2 (x2.ve ve1) ve2 fun v as' G' H' e' s' c' x ve q => k v as' G' H' e' s' c' ((x1.trans x2).trans x) ve q
theorem je_cmp {op : CmpOp} (h : JE X F a s fun e1 s1 => JE X F b s1 fun e2 s2 => JR X F (compareOp op) e1 e2 s2 Φ) (hm : behindInMarks op b = false := by rfl) : JE X F (.Compare a [op] [b] pos) s Φ :=
  je_of (pe_cmpR (op_sem X _) (pe_sem X a) (pe_sem X b) hm) fun as G H σ Q c k => h as G H σ _ c fun v1 as1 G1 H1 e1 s1 c1 x1 ve1 h1 => h1 as1 G1 H1 σ _ c1 fun v2 as2 G2 H2 e2 s2 c2 x2 ve2 h2 =>
    h2 as2 G2 H2 σ _ _ Q c2 (x2.ve ve1) ve2 fun v as' G' H' e' s' c' x ve q => k v as' G' H' e' s' c' ((x1.trans x2).trans x) ve q
theorem jt_cmp {op : CmpOp} (h : JE X F a s fun e1 s1 => JE X F b s1 fun e2 s2 => JR X F (compareOp op) e1 e2 s2 fun e3 s3 => ∃ k, e3 = .d (.bl k) ∧ Ψ k s3) (hm : behindInMarks op b = false := by rfl) : JT X F (.Compare a [op] [b] pos) s Ψ :=
  fun as G H σ Q c k => PT.sem (pt_cmpR (op_sem X _) (pe_sem X a) (pe_sem X b) hm) (h as G H σ _ c fun v1 as1 G1 H1 e1 s1 c1 x1 ve1 h1 => h1 as1 G1 H1 σ _ c1 fun v2 as2 G2 H2 e2 s2 c2 x2 ve2 h2 =>
    h2 as2 G2 H2 σ _ _ _ c2 (x2.ve ve1) ve2 fun v as' G' H' e' s' c' x ve ⟨t, et, q⟩ => by
      subst et
      cases ve
      exact ⟨t, rfl, k t as' G' H' s' c' ((x1.trans x2).trans x) q⟩)
/-- a op b op' c -/
theorem je_chain {op op' : CmpOp} (h : JE X F a s fun e1 s1 => JE X F b s1 fun e2 s2 => JR X F (compareOp op) e1 e2 s2 fun e3 s3 => ∃ k, e3 = .d (.bl k) ∧ if k = true then JE X F c s3 fun e4 s4 => JR X F (compareOp op') e2 e4 s4 Φ else Φ (.d (.bl false)) s3)
    (hm : lastMarks [op, op'] [b, c] = false := by with_unfolding_all rfl) : JE X F (.Compare a [op, op'] [b, c] pos) s Φ :=
  je_of (pe_chain (op_sem X _) (op_sem X _) (pe_sem X a) (pe_sem X b) (pe_sem X c) hm) fun as G H σ Q c0 k => h as G H σ _ c0 fun v1 as1 G1 H1 e1 s1 c1 x1 ve1 h1 => h1 as1 G1 H1 σ _ c1 fun v2 as2 G2 H2 e2 s2 c2 x2 ve2 h2 =>
    h2 as2 G2 H2 σ _ _ _ c2 (x2.ve ve1) ve2 fun v as3 G3 H3 e3 s3 c3 x3 ve ⟨t, et, q⟩ => by
      subst et
      cases ve
      refine ⟨t, rfl, ?_⟩
      cases t with
      | true =>
        simp only [if_true] at q ⊢
        exact q as3 G3 H3 σ _ c3 fun v4 as4 G4 H4 e4 s4 c4 x4 ve4 h4 => h4 as4 G4 H4 σ _ _ Q c4 (x4.ve (x3.ve ve2)) ve4 fun v as' G' H' e' s' c' x ve q => k v as' G' H' e' s' c' ((((x1.trans x2).trans x3).trans x4).trans x) ve q
      | false => exact k _ as3 G3 H3 _ s3 c3 ((x1.trans x2).trans x3) (Rep.bl false) q
theorem jt_chain {op op' : CmpOp} (h : JE X F a s fun e1 s1 => JE X F b s1 fun e2 s2 => JR X F (compareOp op) e1 e2 s2 fun e3 s3 => ∃ k, e3 = .d (.bl k) ∧ if k = true then JE X F c s3 fun e4 s4 => JR X F (compareOp op') e2 e4 s4 (fun e5 s5 => ∃ k, e5 = .d (.bl k) ∧ Ψ k s5) else Ψ false s3)
    (hm : lastMarks [op, op'] [b, c] = false := by with_unfolding_all rfl) : JT X F (.Compare a [op, op'] [b, c] pos) s Ψ :=
  fun as G H σ Q c0 k => PT.sem (pt_chain (op_sem X _) (op_sem X _) (pe_sem X a) (pe_sem X b) (pe_sem X c) hm) (h as G H σ _ c0 fun v1 as1 G1 H1 e1 s1 c1 x1 ve1 h1 => h1 as1 G1 H1 σ _ c1 fun v2 as2 G2 H2 e2 s2 c2 x2 ve2 h2 =>
    h2 as2 G2 H2 σ _ _ _ c2 (x2.ve ve1) ve2 fun v as3 G3 H3 e3 s3 c3 x3 ve ⟨t, et, q⟩ => by
      subst et
      cases ve
      refine ⟨t, rfl, ?_⟩
      cases t with
      | true =>
        simp only [if_true] at q ⊢
        exact q as3 G3 H3 σ _ c3 fun v4 as4 G4 H4 e4 s4 c4 x4 ve4 h4 => h4 as4 G4 H4 σ _ _ _ c4 (x4.ve (x3.ve ve2)) ve4 fun v as' G' H' e' s' c' x ve ⟨t, et, q⟩ => by
          subst et
          cases ve
          exact ⟨t, rfl, k t as' G' H' s' c' ((((x1.trans x2).trans x3).trans x4).trans x) q⟩
      | false => exact ⟨false, rfl, k _ as3 G3 H3 s3 c3 ((x1.trans x2).trans x3) q⟩)
def JU (X : Cx) (F : Fr) (op : UnaryOp) (e : E) (s : S) (Φ : E → S → Prop) : Prop := JV X F (fun vs H Q => ∀ pins st σ v, Inv X pins σ H st → RelV (vs.headD .non) v → wpAny (model X.prog X.w) X.A (unaryOp op v) (EP X pins σ Q) X.xe st) [e] s Φ
theorem je_un {op : UnaryOp} (h : JE X F a s fun e1 s1 => JU X F op e1 s1 Φ) : JE X F (.UnaryOp op a pos) s Φ :=
  je_of (pe_un (r := fun x H Q => ∀ pins st σ v, Inv X pins σ H st → RelV x v → wpAny (model X.prog X.w) X.A (unaryOp op v) (EP X pins σ Q) X.xe st) (fun pins st σ H x v Q I rx q => q pins st σ v I rx) (pe_sem X a)) fun as G H σ Q c k =>
    h as G H σ _ c fun v1 as1 G1 H1 e1 s1 c1 x1 ve1 h1 => h1 as1 G1 H1 σ [v1] Q c1 (.cons ve1 .nil) fun v as' G' H' e' s' c' x ve q => k v as' G' H' e' s' c' (x1.trans x) ve q
/-! tests -/
theorem jt_w (h : JW X F e s Ψ) : JT X F e s Ψ := fun as G H σ Q c k => fun pins st I => h as G H σ Q c k _ pins st I
theorem jw_and1 (h : JT X F a s Ψ) : JW X F (.BoolOp .And [a] pos) s Ψ := fun as G H σ Q c k => PW.sem (pw_and1 (pt_sem X a)) (h as G H σ Q c k)
theorem jw_or1 (h : JT X F a s Ψ) : JW X F (.BoolOp .Or [a] pos) s Ψ := fun as G H σ Q c k => PW.sem (pw_or1 (pt_sem X a)) (h as G H σ Q c k)
theorem jw_and (h : JT X F a s fun k s1 => if k = true then JW X F (.BoolOp .And (b :: rest) pos) s1 Ψ else Ψ false s1) : JW X F (.BoolOp .And (a :: b :: rest) pos) s Ψ :=
  fun as G H σ Q c k => PW.sem (pw_and (pt_sem X a) (pw_sem X _)) (h as G H σ _ c fun t as1 G1 H1 s1 c1 x1 h1 => by
    cases t with
    | true =>
      simp only [if_true] at h1 ⊢
      exact h1 as1 G1 H1 σ Q c1 fun b as2 G2 H2 s2 c2 x2 q => k b as2 G2 H2 s2 c2 (x1.trans x2) q
    | false => exact k false as1 G1 H1 s1 c1 x1 h1)
theorem jw_or (h : JT X F a s fun k s1 => if k = true then Ψ true s1 else JW X F (.BoolOp .Or (b :: rest) pos) s1 Ψ) : JW X F (.BoolOp .Or (a :: b :: rest) pos) s Ψ :=
  fun as G H σ Q c k => PW.sem (pw_or (pt_sem X a) (pw_sem X _)) (h as G H σ _ c fun t as1 G1 H1 s1 c1 x1 h1 => by
    cases t with
    | true => exact k true as1 G1 H1 s1 c1 x1 h1
    | false => exact h1 as1 G1 H1 σ Q c1 fun b as2 G2 H2 s2 c2 x2 q => k b as2 G2 H2 s2 c2 (x1.trans x2) q)
theorem jt_not (h : JT X F a s fun k s1 => Ψ (!k) s1) : JT X F (.UnaryOp .Not a pos) s Ψ := fun as G H σ Q c k => PT.sem (pt_not (pt_sem X a)) (h as G H σ _ c fun t as1 G1 H1 s1 c1 x1 h1 => k _ as1 G1 H1 s1 c1 x1 h1)
/-- an expression that gives a bool, as a test -/
theorem jt_val (h : JE X F e s fun e1 s1 => ∃ k, e1 = .d (.bl k) ∧ Ψ k s1) (he : ∀ whole, isTrue e X.env whole = (do let v ← whole; standAt e.pos; holding [v] (truthy v)) := by intro _; rfl) : JT X F e s Ψ :=
  fun as G H σ Q c k => PT.sem (pt_val (pe_sem X e) he) (h as G H σ _ c fun v as1 G1 H1 e1 s1 c1 x1 ve ⟨t, et, q⟩ => by
    subst et
    cases ve
    exact ⟨t, rfl, k t as1 G1 H1 s1 c1 x1 q⟩)
/-- and, or, not as values -/
theorem je_one {op : BoolOp} (h : JE X F a s Φ) : JE X F (.BoolOp op [a] pos) s Φ := fun as G H σ Q c k => PE.sem (pe_one (pe_sem X a)) (h as G H σ Q c k)
theorem je_and (h : JE X F a s fun e1 s1 => ∃ k, e1 = .d (.bl k) ∧ if k = true then JE X F (.BoolOp .And (b :: rest) pos) s1 Φ else Φ (.d (.bl false)) s1) : JE X F (.BoolOp .And (a :: b :: rest) pos) s Φ :=
  je_of (pe_and (pe_sem X a) (pe_sem X _)) fun as G H σ Q c k => h as G H σ _ c fun v as1 G1 H1 e1 s1 c1 x1 ve ⟨t, et, h1⟩ => by
    subst et
    cases ve
    refine ⟨t, rfl, ?_⟩
    cases t with
    | true =>
      simp only [if_true] at h1 ⊢
      exact h1 as1 G1 H1 σ Q c1 fun v as2 G2 H2 e2 s2 c2 x2 ve q => k v as2 G2 H2 e2 s2 c2 (x1.trans x2) ve q
    | false => exact k _ as1 G1 H1 _ s1 c1 x1 (Rep.bl false) h1
theorem je_or (h : JE X F a s fun e1 s1 => ∃ k, e1 = .d (.bl k) ∧ if k = true then Φ (.d (.bl true)) s1 else JE X F (.BoolOp .Or (b :: rest) pos) s1 Φ) : JE X F (.BoolOp .Or (a :: b :: rest) pos) s Φ :=
  je_of (pe_or (pe_sem X a) (pe_sem X _)) fun as G H σ Q c k => h as G H σ _ c fun v as1 G1 H1 e1 s1 c1 x1 ve ⟨t, et, h1⟩ => by
    subst et
    cases ve
    refine ⟨t, rfl, ?_⟩
    cases t with
    | true => exact k _ as1 G1 H1 _ s1 c1 x1 (Rep.bl true) h1
    | false => exact h1 as1 G1 H1 σ Q c1 fun v as2 G2 H2 e2 s2 c2 x2 ve q => k v as2 G2 H2 e2 s2 c2 (x1.trans x2) ve q
theorem je_not (h : JE X F a s fun e1 s1 => ∃ k, e1 = .d (.bl k) ∧ Φ (.d (.bl (!k))) s1) : JE X F (.UnaryOp .Not a pos) s Φ :=
  je_of (pe_not (pe_sem X a)) fun as G H σ Q c k => h as G H σ _ c fun v as1 G1 H1 e1 s1 c1 x1 ve ⟨t, et, h1⟩ => by
    subst et
    cases ve
    exact ⟨t, rfl, k _ as1 G1 H1 _ s1 c1 x1 (Rep.bl _) h1⟩
theorem je_ife (h : JT X F c s fun k s1 => if k = true then JE X F a s1 Φ else JE X F b s1 Φ) : JE X F (.IfExp c a b pos) s Φ :=
  je_of (pe_ifExp (pt_sem X c) (pe_sem X a) (pe_sem X b)) fun as G H σ Q c k => h as G H σ _ c fun t as1 G1 H1 s1 c1 x1 h1 => by
    cases t with
    | true =>
      simp only [if_true] at h1 ⊢
      exact h1 as1 G1 H1 σ Q c1 fun v as2 G2 H2 e2 s2 c2 x2 ve q => k v as2 G2 H2 e2 s2 c2 (x1.trans x2) ve q
    | false => exact h1 as1 G1 H1 σ Q c1 fun v as2 G2 H2 e2 s2 c2 x2 ve q => k v as2 G2 H2 e2 s2 c2 (x1.trans x2) ve q
/-! argument lists -/
theorem ja_nil {Φ : List E → S → Prop} (q : Φ [] s) : JA X F [] s Φ := fun as G H σ Q c k => PA.sem pa_nil (k [] as G H [] s c (Ext.refl _ _) .nil q)
theorem ja_cons {Φ : List E → S → Prop} (h : JE X F e s fun e1 s1 => JA X F es s1 fun r s2 => Φ (e1 :: r) s2) (hs : starEach (e :: es) X.env = (false, eval e X.env) :: starEach es X.env := by rfl) : JA X F (e :: es) s Φ :=
  fun as G H σ Q c k => PA.sem (pa_cons (pe_sem X e) (pa_sem X es) hs) (h as G H σ _ c fun v as1 G1 H1 e1 s1 c1 x1 ve h1 => h1 as1 G1 H1 σ _ c1 fun vs as2 G2 H2 r s2 c2 x2 ves q => k _ as2 G2 H2 _ s2 c2 (x1.trans x2) (.cons (x2.ve ve) ves) q)
end
end DL
namespace DL
open PySem PySem.Spec PyProof.Rows L2
/-! ### nodes -/
def S.node (s : S) : E → Option (Kd × List E)
  | .d (.nd k ds) => some (k, ds.map .d)
  | .d .non => none
  | .d (.bl _) => none
  | .d (.int _) => none
  | .d (.str _) => none
  | .r i => match nth s.ce i with
    | some (.nd k es) => some (k, es)
    | _ => none
theorem CellAt.node {K : PySem.W.Frag} {H : Hp} {a : Addr} {vs : List V} : ∀ {k : Kd}, CellAt H a vs k → NodeAt K H a vs k
  | .tup, x => x.elim
  | .lst, x => SqL.of x
  | .dct ks, x => x
  | .ins C fs, x => x
variable {X : Cx} {F : Fr} {s : S}
theorem Cz.node {as : List Addr} {G H : Hp} {σ : L2.St} (c : Cz X F as G H σ s) {v : V} {e : E} {kd : Kd} {es : List E} (ve : VE X.K G as v e) (h : s.node e = some (kd, es)) :
    ∃ a vs, v = .ref a ∧ NodeAt X.K H a vs kd ∧ VEs X.K G as vs es := by
  cases e with
  | d x =>
    cases x with
    | nd k ds =>
      cases h
      cases ve with
      | nd n r => exact ⟨_, _, rfl, n.mono c.sub, VEs.ofReps r⟩
    | _ => cases h
  | r i =>
    obtain ⟨a, h1, h2⟩ := ve
    have h : (match nth s.ce i with
      | some (.nd k es) => some (k, es)
      | _ => none) = some (kd, es) := h
    rw [nth_eq] at h
    cases hc : s.ce[i]? with
    | none => rw [hc] at h; cases h
    | some cl =>
      rw [hc] at h
      cases cl with
      | gone => cases h
      | nd k es' =>
        cases h
        obtain ⟨a', vs, g1, g2, g3⟩ := c.cells i _ _ hc
        rw [h1] at g1
        cases g1
        exact ⟨_, vs, h2, g2.node, g3⟩
/-- a node as data -/
def dsOf : List E → Option (List D)
  | [] => some []
  | .d x :: r => (dsOf r).map (x :: ·)
  | .r _ :: _ => none
theorem dsOf_eq : ∀ {es : List E} {ds : List D}, dsOf es = some ds → es = ds.map .d
  | [], ds, h => by cases h; rfl
  | .d x :: r, ds, h => by
    unfold dsOf at h
    cases q : dsOf r with
    | none => rw [q] at h; cases h
    | some y =>
      rw [q] at h
      cases h
      rw [dsOf_eq q]
      rfl
  | .r _ :: _, ds, h => by cases h
theorem dsOf_map : ∀ (ds : List D), dsOf (ds.map .d) = some ds
  | [] => rfl
  | d :: ds => by
    show (dsOf (ds.map .d)).map (d :: ·) = _
    rw [dsOf_map ds]
    rfl
theorem VEs.atI {K : PySem.W.Frag} {G : Hp} {as : List Addr} {vs : List V} {es : List E} {i : Int} {e : E} (r : VEs K G as vs es) (h : L2.atI es i = some e) : ∃ v, L2.atI vs i = some v ∧ VE K G as v e := by
  unfold L2.atI at h ⊢
  rw [Paired.length r]
  cases q : ixN es.length i with
  | none => rw [q] at h; cases h
  | some j =>
    rw [q] at h
    exact r.get' h
/-! ### subscripts -/
def semIx (X : Cx) : R2 := fun x y H Q => ∀ value slice pins st σ v u, Inv X pins σ H st → RelV x v → RelV y u → subscripted slice false v u = operate [v, u] (getItem v u) → wpAny (model X.prog X.w) X.A (subscriptTail value slice v u) (EP X pins σ Q) X.xe st
theorem ix_sem (X : Cx) : IxR X (semIx X) := fun value slice pins st σ H x y v u Q I rx ry h hs => h value slice pins st σ v u I rx ry hs
def JX (X : Cx) (F : Fr) (e1 e2 : E) (s : S) (Φ : E → S → Prop) : Prop := ∀ as G H σ x y (Q : VK), Cz X F as G H σ s → VE X.K G as x e1 → VE X.K G as y e2 →
  (∀ v as' G' H' e' s', Cz X F as' G' H' σ s' → Ext as as' G G' → VE X.K G' as' v e' → Φ e' s' → Q v H') → semIx X x y H Q
section
variable {e a b c : Expr} {es rest : List Expr} {Φ : E → S → Prop} {Ψ : Bool → S → Prop} {pos p : Pos}
theorem je_sub (h : JE X F a s fun e1 s1 => JE X F b s1 fun e2 s2 => JX X F e1 e2 s2 Φ) (hs : PlainIx b := by intro _ _; rfl) : JE X F (.Subscript a b pos) s Φ :=
  je_of (pe_ix (ix_sem X) (pe_sem X a) (pe_sem X b) hs) fun as G H σ Q c k => h as G H σ _ c fun v1 as1 G1 H1 e1 s1 c1 x1 ve1 h1 => h1 as1 G1 H1 σ _ c1 fun v2 as2 G2 H2 e2 s2 c2 x2 ve2 h2 =>
    h2 as2 G2 H2 σ _ _ Q c2 (x2.ve ve1) ve2 fun v as' G' H' e' s' c' x ve q => k v as' G' H' e' s' c' ((x1.trans x2).trans x) ve q
theorem jx_of {r : R2} {e1 e2 : E} (h : IxR X r) (k : ∀ as G H σ x y (Q : VK), Cz X F as G H σ s → VE X.K G as x e1 → VE X.K G as y e2 →
    (∀ v as' G' H' e' s', Cz X F as' G' H' σ s' → Ext as as' G G' → VE X.K G' as' v e' → Φ e' s' → Q v H') → r x y H Q) : JX X F e1 e2 s Φ :=
  fun as G H σ x y Q c v1 v2 q => fun value slice pins st σ' v u I rx ry hs => h value slice pins st σ' H x y v u Q I rx ry (k as G H σ x y Q c v1 v2 q) hs
theorem jx_seq {e1 e' : E} {i : Int} {kd : Kd} {es : List E} (h : s.node e1 = some (kd, es)) (hk : kd = .lst ∨ kd = .tup) (ha : L2.atI es i = some e') (q : Φ e' s) : JX X F e1 (.d (.int i)) s Φ :=
  jx_of (ix_list.or ix_tup) fun as G H σ x y Q c v1 v2 k => by
    obtain ⟨a, vs, rfl, n, ves⟩ := c.node v1 h
    cases v2
    obtain ⟨v, hv, ve⟩ := ves.atI ha
    have fin := k v as G H e' s c (Ext.refl _ _) ve q
    rcases hk with rfl | rfl
    · exact .inl ⟨a, vs, i, v, rfl, rfl, n, hv, fin⟩
    · exact .inr ⟨a, vs, i, v, rfl, rfl, n, hv, fin⟩
theorem jx_str {z : Str} {i : Int} {cp : Nat} (hz : z.length ≤ sizeLine) (ha : L2.atI z.cps.toList i = some cp) (q : Φ (.d (.str ⟨#[cp]⟩)) s) : JX X F (.d (.str z)) (.d (.int i)) s Φ :=
  jx_of ix_str fun as G H σ x y Q c v1 v2 k => by
    cases v1
    cases v2
    exact ⟨z, i, cp, rfl, rfl, hz, ha, k _ as G H _ s c (Ext.refl _ _) (Rep.str _) q⟩
/-- a key -/
def keyE : E → Option Key
  | .d (.int i) => some (.inl i)
  | .d (.str x) => some (.inr x)
  | _ => none
theorem keyE_v {K : PySem.W.Frag} {G : Hp} {as : List Addr} {e : E} {k : Key} {v : V} (h : keyE e = some k) (ve : VE K G as v e) : v = kV k := by
  cases e with
  | r _ => cases h
  | d x => cases x <;> cases h <;> cases ve <;> rfl
/-- what stands at a key -/
def lk {α : Type} (kvs : List (Key × α)) (k : Key) : Option α := (kvs.find? fun kv => decide (kv.1 = k)).map (·.2)
theorem lk_val {K : PySem.W.Frag} {G : Hp} {as : List Addr} {k : Key} : ∀ {ks : List Key} {vs : List V} {es : List E}, VEs K G as vs es →
    (∀ e, lk (ks.zip es) k = some e → ∃ v, valV (ks.zip vs) k = some v ∧ VE K G as v e) ∧ (lk (ks.zip es) k = none → valV (ks.zip vs) k = none)
  | [], _, _, _ => ⟨fun e h => by simp [lk] at h, fun _ => rfl⟩
  | _ :: _, _, _, .nil => ⟨fun e h => by simp [lk] at h, fun _ => rfl⟩
  | k' :: ks, v :: vs, e :: es, .cons h t => by
    obtain ⟨h1, h2⟩ := lk_val (k := k) (ks := ks) t
    by_cases hk : k' = k
    · subst hk
      refine ⟨fun e' q => ?_, fun q => ?_⟩
      · simp [lk, List.zip_cons_cons, List.find?_cons] at q
        subst q
        exact ⟨v, by simp [valV, List.zip_cons_cons, List.find?_cons], h⟩
      · simp [lk, List.zip_cons_cons, List.find?_cons] at q
    · have e1 : lk ((k' :: ks).zip (e :: es)) k = lk (ks.zip es) k := by simp [lk, List.zip_cons_cons, List.find?_cons, hk]
      have e2 : valV ((k' :: ks).zip (v :: vs)) k = valV (ks.zip vs) k := by simp [valV, List.zip_cons_cons, List.find?_cons, hk]
      rw [e1, e2]
      exact ⟨h1, h2⟩
theorem ix_dict (hu : X.A.units + 1 < cLine) : IxR X (fun x y H Q => ∃ a v, x = .ref a ∧ DGet H a y (some v) ∧ Q v H) := by
  intro value slice pins st σ H x y v u Q I rx ry h hs
  obtain ⟨a, w, rfl, g, q⟩ := h
  obtain rfl : v = Value.ref a := rx
  exact tail_any (dict_typeIs I g) PySem.F.slot_dict_getitem.lookup (d_getItem hu I g ry fun w' s3 I3 rw' => ⟨w, H, I3, rw', q⟩) hs
theorem jx_dct {e1 e2 e' : E} {k : Key} {ks : List Key} {es : List E} (hu : X.A.units + 1 < cLine) (h : s.node e1 = some (.dct ks, es)) (hk : keyE e2 = some k) (ha : lk (ks.zip es) k = some e') (q : Φ e' s) : JX X F e1 e2 s Φ :=
  jx_of (ix_dict hu) fun as G H σ x y Q c v1 v2 kk => by
    obtain ⟨a, vs, rfl, ⟨n1, n2, od, n3⟩, ves⟩ := c.node v1 h
    obtain rfl := keyE_v hk v2
    obtain ⟨v, hv, ve⟩ := (lk_val (ks := ks) ves).1 e' ha
    exact ⟨a, v, rfl, .inl ⟨_, k, .inr ⟨od, n3⟩, rfl, hv.symm⟩, kk v as G H e' s c (Ext.refl _ _) ve q⟩
end
/-! ### operations -/
section
variable {Φ : E → S → Prop}
theorem jr_of {f : Value → Value → Sem Value} {r : R2} {e1 e2 : E} (h : OpR X f r) (k : ∀ as G H σ x y (Q : VK), Cz X F as G H σ s → VE X.K G as x e1 → VE X.K G as y e2 →
    (∀ v as' G' H' e' s', Cz X F as' G' H' σ s' → Ext as as' G G' → VE X.K G' as' v e' → Φ e' s' → Q v H') → r x y H Q) : JR X F f e1 e2 s Φ :=
  fun as G H σ x y Q c v1 v2 q => fun pins st σ' v u I rx ry => h pins st σ' H x y v u Q I rx ry (k as G H σ x y Q c v1 v2 q)
/-- an operation on scalars that gives a scalar -/
theorem jr_ii {f : Value → Value → Sem Value} {C : Int → Int → Prop} {g : Int → Int → V} {i j : Int} {d : D} (h : OpR X f (rI C g)) (hc : C i j) (hd : Rep X.K (fun _ => none) (g i j) d) (q : Φ (.d d) s) : JR X F f (.d (.int i)) (.d (.int j)) s Φ :=
  jr_of h fun as G H σ x y Q c v1 v2 k => by
    cases v1
    cases v2
    exact ⟨i, j, rfl, rfl, hc, k _ as G H _ s c (Ext.refl _ _) (hd.mono (by intro _ _ z; cases z)) q⟩
theorem jr_i0 {f : Value → Value → Sem Value} {g : Int → Int → V} {i j : Int} {d : D} (h : OpR X f (rI0 g)) (hd : Rep X.K (fun _ => none) (g i j) d) (q : Φ (.d d) s) : JR X F f (.d (.int i)) (.d (.int j)) s Φ :=
  jr_of h fun as G H σ x y Q c v1 v2 k => by
    cases v1
    cases v2
    exact ⟨i, j, rfl, rfl, k _ as G H _ s c (Ext.refl _ _) (hd.mono (by intro _ _ z; cases z)) q⟩
variable {i j : Int}
theorem jr_add (q : Φ (.d (.int (i + j))) s) : JR X F (binaryOp .Add) (.d (.int i)) (.d (.int j)) s Φ := jr_i0 op_add (.int _) q
theorem jr_sub (q : Φ (.d (.int (i - j))) s) : JR X F (binaryOp .Sub) (.d (.int i)) (.d (.int j)) s Φ := jr_i0 op_sub (.int _) q
theorem jr_mul (hc : CMul i j ∨ CMulW i j) (q : Φ (.d (.int (i * j))) s) : JR X F (binaryOp .Mult) (.d (.int i)) (.d (.int j)) s Φ := by
  rcases hc with hc | hc
  · exact jr_ii op_mul hc (.int _) q
  · exact jr_ii op_mulW hc (.int _) q
theorem jr_fdiv (hc : CDiv i j ∨ CDivW i j) (q : Φ (.d (.int (i / j))) s) : JR X F (binaryOp .FloorDiv) (.d (.int i)) (.d (.int j)) s Φ := by
  rcases hc with hc | hc
  · exact jr_ii op_fdiv hc (.int _) q
  · exact jr_ii op_fdivW hc (.int _) q
theorem jr_mod (hc : 0 < j) (q : Φ (.d (.int (i % j))) s) : JR X F (binaryOp .Mod) (.d (.int i)) (.d (.int j)) s Φ := jr_ii op_mod hc (.int _) q
theorem jr_pow (hc : CPow i j) (q : Φ (.d (.int (i ^ j.toNat))) s) : JR X F (binaryOp .Pow) (.d (.int i)) (.d (.int j)) s Φ := jr_ii op_pow hc (.int _) q
theorem jr_shr (hc : 0 ≤ j) (q : Φ (.d (.int (i / 2 ^ j.toNat))) s) : JR X F (binaryOp .RShift) (.d (.int i)) (.d (.int j)) s Φ := jr_ii op_shr hc (.int _) q
theorem jr_shl (hc : CPow i j) (q : Φ (.d (.int (i * 2 ^ j.toNat))) s) : JR X F (binaryOp .LShift) (.d (.int i)) (.d (.int j)) s Φ := jr_ii op_shl hc (.int _) q
theorem jr_band (q : Φ (.d (.int (Builtin.bitAnd i j))) s) : JR X F (binaryOp .BitAnd) (.d (.int i)) (.d (.int j)) s Φ := jr_i0 op_and (.int _) q
theorem jr_bxor (q : Φ (.d (.int (Builtin.bitXor i j))) s) : JR X F (binaryOp .BitXor) (.d (.int i)) (.d (.int j)) s Φ := jr_i0 op_xor (.int _) q
theorem jr_lt (q : Φ (.d (.bl (decide (i < j)))) s) : JR X F (compareOp .Lt) (.d (.int i)) (.d (.int j)) s Φ := jr_i0 op_lt (.bl _) q
theorem jr_le (q : Φ (.d (.bl (decide (i ≤ j)))) s) : JR X F (compareOp .LtE) (.d (.int i)) (.d (.int j)) s Φ := jr_i0 op_le (.bl _) q
theorem jr_gt (q : Φ (.d (.bl (decide (j < i)))) s) : JR X F (compareOp .Gt) (.d (.int i)) (.d (.int j)) s Φ := jr_i0 op_gt (.bl _) q
theorem jr_ge (q : Φ (.d (.bl (decide (j ≤ i)))) s) : JR X F (compareOp .GtE) (.d (.int i)) (.d (.int j)) s Φ := jr_i0 op_ge (.bl _) q
theorem jr_adds {x y : Str} (hz : x.length + y.length ≤ sizeLine) (q : Φ (.d (.str (x ++ y))) s) : JR X F (binaryOp .Add) (.d (.str x)) (.d (.str y)) s Φ :=
  jr_of op_add_str fun as G H σ _ _ Q c v1 v2 k => by
    cases v1
    cases v2
    exact ⟨x, y, rfl, rfl, hz, k _ as G H _ s c (Ext.refl _ _) (Rep.str _) q⟩
/-- == and != of scalars -/
def vD : D → V
  | .non => .non | .bl b => .bl b | .int i => .int i | .str x => .str x | .nd _ _ => .ref 0
theorem vD_of {K : PySem.W.Frag} {G : Hp} {v : V} {d : D} (h : Rep K G v d) (hn : ∀ k ds, d ≠ .nd k ds) : v = vD d := by
  cases h with
  | nd _ _ => exact absurd rfl (hn _ _)
  | _ => rfl
theorem scal_nd {d e : D} (h : scal (vD d) (vD e) = true) : (∀ k ds, d ≠ .nd k ds) ∧ ∀ k ds, e ≠ .nd k ds := by
  refine ⟨fun k ds q => ?_, fun k ds q => ?_⟩
  · subst q; cases e <;> cases h
  · subst q; cases d <;> cases h
theorem jr_eq {d e : D} (hs : scal (vD d) (vD e) = true) (q : Φ (.d (.bl (decide (vD d = vD e)))) s) : JR X F (compareOp .Eq) (.d d) (.d e) s Φ :=
  jr_of op_eq fun as G H σ x y Q c v1 v2 k => by
    obtain ⟨n1, n2⟩ := scal_nd hs
    obtain rfl := vD_of v1 n1
    obtain rfl := vD_of v2 n2
    exact ⟨hs, k _ as G H _ s c (Ext.refl _ _) (Rep.bl _) q⟩
theorem jr_ne {d e : D} (hs : scal (vD d) (vD e) = true) (q : Φ (.d (.bl (!decide (vD d = vD e)))) s) : JR X F (compareOp .NotEq) (.d d) (.d e) s Φ :=
  jr_of op_ne fun as G H σ x y Q c v1 v2 k => by
    obtain ⟨n1, n2⟩ := scal_nd hs
    obtain rfl := vD_of v1 n1
    obtain rfl := vD_of v2 n2
    exact ⟨hs, k _ as G H _ s c (Ext.refl _ _) (Rep.bl _) q⟩
theorem dv_int {i j : Int} : decide (vD (.int i) = vD (.int j)) = decide (i = j) := by simp [vD]
theorem dv_str {i j : Str} : decide (vD (.str i) = vD (.str j)) = decide (i = j) := by simp [vD]
theorem dv_bl {i j : Bool} : decide (vD (.bl i) = vD (.bl j)) = decide (i = j) := by simp [vD]
theorem jr_eqi (q : Φ (.d (.bl (decide (i = j)))) s) : JR X F (compareOp .Eq) (.d (.int i)) (.d (.int j)) s Φ :=
  jr_eq rfl (by rw [dv_int]; exact q)
theorem jr_nei (q : Φ (.d (.bl (!decide (i = j)))) s) : JR X F (compareOp .NotEq) (.d (.int i)) (.d (.int j)) s Φ :=
  jr_ne rfl (by rw [dv_int]; exact q)
theorem jr_eqs {x y : Str} (q : Φ (.d (.bl (decide (x = y)))) s) : JR X F (compareOp .Eq) (.d (.str x)) (.d (.str y)) s Φ :=
  jr_eq rfl (by rw [dv_str]; exact q)
theorem jr_nes {x y : Str} (q : Φ (.d (.bl (!decide (x = y)))) s) : JR X F (compareOp .NotEq) (.d (.str x)) (.d (.str y)) s Φ :=
  jr_ne rfl (by rw [dv_str]; exact q)
theorem jr_eqb {x y : Bool} (q : Φ (.d (.bl (decide (x = y)))) s) : JR X F (compareOp .Eq) (.d (.bl x)) (.d (.bl y)) s Φ :=
  jr_eq rfl (by rw [dv_bl]; exact q)
theorem jr_neb {x y : Bool} (q : Φ (.d (.bl (!decide (x = y)))) s) : JR X F (compareOp .NotEq) (.d (.bl x)) (.d (.bl y)) s Φ :=
  jr_ne rfl (by rw [dv_bl]; exact q)
/-- is None -/
def isNon : E → Bool
  | .d .non => true
  | _ => false
theorem isNon_v {K : PySem.W.Frag} {G : Hp} {as : List Addr} {v : V} {e : E} (h : VE K G as v e) : decide (v = .non) = isNon e := by
  cases e with
  | r _ => obtain ⟨a, _, rfl⟩ := h; rfl
  | d x => cases h <;> rfl
theorem jr_isN {e : E} (q : Φ (.d (.bl (isNon e))) s) : JR X F (compareOp .Is) e (.d .non) s Φ :=
  jr_of op_isN fun as G H σ x y Q c v1 v2 k => by
    cases v2
    exact ⟨rfl, by rw [isNon_v v1]; exact k _ as G H _ s c (Ext.refl _ _) (Rep.bl _) q⟩
theorem jr_notN {e : E} (q : Φ (.d (.bl (!isNon e))) s) : JR X F (compareOp .IsNot) e (.d .non) s Φ :=
  jr_of op_notN fun as G H σ x y Q c v1 v2 k => by
    cases v2
    exact ⟨rfl, by rw [isNon_v v1]; exact k _ as G H _ s c (Ext.refl _ _) (Rep.bl _) q⟩
/-- is True, is False: a bool is itself, anything else is not -/
def isBl (b : Bool) : E → Bool
  | .d (.bl c) => decide (c = b)
  | _ => false
theorem op_isBool : OpR X (compareOp .Is) (fun x y H Q => ∃ b : Bool, y = .bl b ∧ Q (.bl (decide (x = .bl b))) H) := by
  intro pins st σ H x y v u Q I rx ry h
  obtain ⟨b, rfl, q⟩ := h
  cases (show u = Value.bool b from ry)
  have oth : ∀ {v : Value}, RelV x v → x ≠ .bl b → wpAny (model X.prog X.w) X.A (compareOp .Is v (.bool b)) (EP X pins σ Q) X.xe st := fun {v} r ne => by
    have fin : EP X pins σ Q (.bool false) st := ⟨.bl false, H, I, rfl, by rw [decide_eq_false ne] at q; exact q⟩
    cases x with
    | non => cases r; exact wpAny_is_other rfl (fun z => by cases z) fin
    | bl c => cases r; exact wpAny_is_other rfl (fun z => ne (by rw [Value.bool.inj z])) fin
    | int i => obtain ⟨t, rfl⟩ := r; exact wpAny_is_other rfl (fun z => by cases z) fin
    | str i => obtain ⟨t, rfl⟩ := r; exact wpAny_is_other rfl (fun z => by cases z) fin
    | byt i => obtain ⟨t, rfl⟩ := r; exact wpAny_is_other rfl (fun z => by cases z) fin
    | flt i => obtain ⟨t, rfl⟩ := r; exact wpAny_is_other rfl (fun z => by cases z) fin
    | ref a => cases r; exact wpAny_is_other rfl (fun z => by cases z) fin
    | ty n => cases r; exact wpAny_is_other rfl (fun z => by cases z) fin
  by_cases e : x = .bl b
  · subst e
    cases (show v = Value.bool b from rx)
    exact wpAny_is_self rfl ⟨.bl true, H, I, rfl, by simpa using q⟩
  · exact oth rx e
end
end DL
namespace DL
open PySem PySem.Spec PyProof.Rows L2
variable {X : Cx} {F : Fr} {s : S}
/-! ### states: more frozen, more owned, frozen now -/
theorem same_upd {G H : Hp} {p : Addr} {o : HO} (e : Same G H) : Same (upd G p o) (upd H p o) := fun b u h => by
  by_cases hb : b = p
  · subst hb; rw [upd_same] at h ⊢; exact h
  · rw [upd_ne hb] at h ⊢; exact e b u h
theorem same_new {G : Hp} {p : Addr} {o : HO} (h : G p = none) : Same G (upd G p o) := fun b u q => by
  rw [upd_ne (ne_of_none q h)]; exact q
section
variable {as : List Addr} {G H : Hp} {σ : L2.St}
theorem Cz.gnone (c : Cz X F as G H σ s) {p : Addr} (h : H p = none) : G p = none := by
  cases q : G p with
  | none => rfl
  | some o => have := c.sub p o q; rw [h] at this; cases this
theorem Cz.notin (c : Cz X F as G H σ s) {p : Addr} (h : H p = none) : p ∉ as := fun z => c.there p z h
theorem Cz.h0none (c : Cz X F as G H σ s) {p : Addr} (h : H p = none) : F.H0 p = none := by
  cases q : F.H0 p with
  | none => rfl
  | some o =>
    by_cases hA : p ∈ F.A0
    · exact absurd (c.pre.subset hA) (c.notin h)
    · have := c.frame p o q hA; rw [h] at this; cases this
/-- a new frozen object -/
theorem Cz.addG (c : Cz X F as G H σ s) {p : Addr} {o : HO} (h : H p = none) : Cz X F as (upd G p o) (upd H p o) σ s := by
  have gn := c.gnone h
  have sg : Same G (upd G p o) := same_new gn
  have ni := c.notin h
  refine ⟨same_upd c.sub, c.base.trans sg, fun b h1 h2 => ?_, fun b u h1 h2 => ?_, c.len, c.pre, c.nd, fun k a kd es h1 h2 => ?_, c.fresh, fun a ha => ?_, fun k kd es hk => ?_, fun i e he => ?_, c.slen, c.har⟩
  · have hb : b ≠ p := fun z => by rw [z] at h2; exact h2 (c.h0none h)
    rw [upd_ne hb]; exact c.new b h1 h2
  · have q := c.frame b u h1 h2
    rw [upd_ne (ne_of_none q h)]; exact q
  · have ha : a ≠ p := fun z => ni (by rw [← z]; exact List.mem_of_getElem? h1)
    rw [upd_ne ha]; exact c.own k a kd es h1 h2
  · rw [upd_ne (fun z => ni (by rw [← z]; exact ha))]; exact c.there a ha
  · obtain ⟨a, vs, h1, h2, h3⟩ := c.cells k kd es hk
    exact ⟨a, vs, h1, h2.keep fun u q => by rw [upd_ne (ne_of_none q h)]; exact q, h3.mono (List.prefix_refl _) sg⟩
  · obtain ⟨v, h1, h2⟩ := c.slots i e he
    exact ⟨v, h1, h2.mono (List.prefix_refl _) sg⟩
def S.push (s : S) (kd : Kd) (es : List E) : S := ⟨s.sl, s.ce ++ [.nd kd es], s.ar⟩
theorem pre_snoc {as : List Addr} {p : Addr} : as <+: as ++ [p] := ⟨[p], rfl⟩
/-- a new owned object -/
theorem Cz.addO (c : Cz X F as G H σ s) {p : Addr} {o : HO} {kd : Kd} {vs : List V} {es : List E} (h : H p = none) (hc : CellAt (upd H p o) p vs kd) (hv : VEs X.K G as vs es) : Cz X F (as ++ [p]) G (upd H p o) σ (s.push kd es) := by
  have gn := c.gnone h
  have ni := c.notin h
  have pr : as <+: as ++ [p] := pre_snoc
  have at_ : ∀ {k : Nat} {a : Addr}, (as ++ [p])[k]? = some a → (k < as.length ∧ as[k]? = some a) ∨ (k = as.length ∧ a = p) := fun {k a} q => by
    by_cases hk : k < as.length
    · rw [List.getElem?_append_left hk] at q; exact .inl ⟨hk, q⟩
    · rw [List.getElem?_append_right (by omega)] at q
      have hk0 : k - as.length = 0 := by
        have := (List.getElem?_eq_some_iff.mp q).1
        simp at this
        exact this
      rw [hk0] at q
      exact .inr ⟨by omega, (Option.some.inj q).symm⟩
  have cet : ∀ {k : Nat} {cl : Cell}, (s.push kd es).ce[k]? = some cl → (k < as.length ∧ s.ce[k]? = some cl) ∨ (k = as.length ∧ cl = .nd kd es) := fun {k cl} q => by
    have q : (s.ce ++ [.nd kd es])[k]? = some cl := q
    by_cases hk : k < as.length
    · rw [List.getElem?_append_left (by rw [← c.len]; exact hk)] at q; exact .inl ⟨hk, q⟩
    · rw [List.getElem?_append_right (by rw [← c.len]; omega)] at q
      have hk0 : k - s.ce.length = 0 := by
        have := (List.getElem?_eq_some_iff.mp q).1
        simp at this
        exact this
      rw [hk0] at q
      exact .inr ⟨by rw [c.len]; have := c.len; omega, (Option.some.inj q).symm⟩
  refine ⟨fun b u q => ?_, c.base, c.new, fun b u h1 h2 => ?_, ?_, c.pre.trans pr, ?_, fun k a kd' es' h1 h2 => ?_, fun a ha => ?_, fun a ha => ?_, fun k kd' es' hk => ?_, fun i e he => ?_, c.slen, c.har⟩
  · rw [upd_ne (ne_of_none q gn)]; exact c.sub b u q
  · have q := c.frame b u h1 h2
    rw [upd_ne (ne_of_none q h)]; exact q
  · show (as ++ [p]).length = (s.ce ++ [Cell.nd kd es]).length
    rw [List.length_append, List.length_append, c.len]; rfl
  · rw [List.nodup_append]
    exact ⟨c.nd, by simp, fun a ha b hb => by
      have : b = p := by simpa using hb
      subst this
      exact fun z => ni (z ▸ ha)⟩
  · rcases at_ h1 with ⟨hk, q⟩ | ⟨hk, rfl⟩
    · rcases cet h2 with ⟨_, q2⟩ | ⟨hk2, _⟩
      · exact c.own k a _ _ q q2
      · omega
    · exact gn
  · rcases List.mem_append.mp ha with ha | ha
    · exact c.fresh a ha
    · have : a = p := by simpa using ha
      subst this
      exact .inr (c.h0none h)
  · rcases List.mem_append.mp ha with ha | ha
    · rw [upd_ne (fun z => ni (by rw [← z]; exact ha))]; exact c.there a ha
    · have : a = p := by simpa using ha
      subst this
      rw [upd_same]
      exact fun z => by cases z
  · rcases cet hk with ⟨hlt, q⟩ | ⟨hk2, q⟩
    · obtain ⟨a, ws, h1, h2, h3⟩ := c.cells k kd' es' q
      exact ⟨a, ws, pre_get pr h1, h2.keep fun u q => by rw [upd_ne (ne_of_none q h)]; exact q, h3.mono pr (Same.refl _)⟩
    · cases q
      subst hk2
      exact ⟨p, vs, by rw [List.getElem?_append_right (Nat.le_refl _)]; simp, hc, hv.mono pr (Same.refl _)⟩
  · obtain ⟨v, h1, h2⟩ := c.slots i e he
    exact ⟨v, h1, h2.mono pr (Same.refl _)⟩
/-! freezing the cell k -/
def E.fz (k : Nat) (x : D) : E → E
  | .d y => .d y
  | .r j => if j == k then .d x else .r j
def Cell.fz (k : Nat) (x : D) : Cell → Cell
  | .gone => .gone
  | .nd kd es => .nd kd (es.map (E.fz k x))
def S.fz (s : S) (k : Nat) (x : D) : S := ⟨s.sl.map (Option.map (E.fz k x)), (setN s.ce k .gone).map (Cell.fz k x), s.ar⟩
theorem Cz.fz (c : Cz X F as G H σ s) {k : Nat} {kd : Kd} {ds : List D} (hk : nth s.ce k = some (.nd kd (ds.map .d))) (hkd : ∀ C fs, kd ≠ .ins C fs) (ha : s.ar ≤ k) :
    ∃ a G', as[k]? = some a ∧ Ext as as G G' ∧ Cz X F as G' H σ (s.fz k (.nd kd ds)) ∧ Rep X.K G' (.ref a) (.nd kd ds) := by
  rw [nth_eq] at hk
  obtain ⟨a, vs, h1, h2, h3⟩ := c.cells k _ _ hk
  obtain ⟨o, ho⟩ := h2.some
  have gn : G a = none := c.own k a _ _ h1 hk
  have sg : Same G (upd G a o) := same_new gn
  have inj : ∀ {j : Nat} {b : Addr}, as[j]? = some b → b = a → j = k := fun {j b} q e => by
    subst e
    obtain ⟨l1, e1⟩ := List.getElem?_eq_some_iff.mp q
    obtain ⟨l2, e2⟩ := List.getElem?_eq_some_iff.mp h1
    exact (List.getElem_inj c.nd).mp (e1.trans e2.symm)
  have nA : a ∉ F.A0 := fun z => by
    obtain ⟨j, hj⟩ := List.getElem?_of_mem z
    have q := pre_get c.pre hj
    have := inj q rfl
    have l := (List.getElem?_eq_some_iff.mp hj).1
    rw [c.har] at l
    omega
  have h0 : F.H0 a = none := (c.fresh a (List.mem_of_getElem? h1)).resolve_left nA
  have rep : Rep X.K (upd G a o) (.ref a) (.nd kd ds) := by
    refine .nd ?_ (h3.reps.mono sg)
    have : CellAt (upd G a o) a vs kd := h2.keep fun u q => by rw [upd_same, ← ho, q]
    exact this.node
  have vz : ∀ {v : V} {e : E}, VE X.K G as v e → VE X.K (upd G a o) as v (e.fz k (.nd kd ds)) := fun {v e} q => by
    cases e with
    | d y => exact Rep.mono sg q
    | r j =>
      obtain ⟨b, q1, q2⟩ := q
      show VE X.K (upd G a o) as v (if (j == k) = true then .d (.nd kd ds) else .r j)
      by_cases hj : j = k
      · subst hj
        rw [if_pos (by simp)]
        rw [h1] at q1
        cases q1
        rw [q2]
        exact rep
      · rw [if_neg (by simpa using hj)]
        exact ⟨b, q1, q2⟩
  have vzs : ∀ {vs : List V} {es : List E}, VEs X.K G as vs es → VEs X.K (upd G a o) as vs (es.map (E.fz k (.nd kd ds))) := by
    intro vs es h
    induction h with
    | nil => exact .nil
    | cons h _ ih => exact .cons (vz h) ih
  have cel : ∀ {j : Nat} {kd' : Kd} {es' : List E}, (s.fz k (.nd kd ds)).ce[j]? = some (.nd kd' es') → j ≠ k ∧ ∃ es, s.ce[j]? = some (.nd kd' es) ∧ es' = es.map (E.fz k (.nd kd ds)) := fun {j kd' es'} q => by
    have q : ((setN s.ce k .gone).map (Cell.fz k (.nd kd ds)))[j]? = some (.nd kd' es') := q
    rw [setN_eq, List.getElem?_map] at q
    by_cases hj : j = k
    · subst hj
      have l := (List.getElem?_eq_some_iff.mp hk).1
      rw [List.getElem?_set_self l] at q
      cases q
    · rw [List.getElem?_set_ne (fun z => hj z.symm)] at q
      cases e : s.ce[j]? with
      | none => rw [e] at q; cases q
      | some cl =>
        rw [e] at q
        cases cl with
        | gone => cases q
        | nd k2 es2 =>
          cases q
          exact ⟨hj, es2, rfl, rfl⟩
  refine ⟨a, upd G a o, h1, ⟨List.prefix_refl _, sg⟩, ⟨fun b u q => ?_, c.base.trans sg, fun b q1 q2 => ?_, c.frame, ?_, c.pre, c.nd, fun j b kd' es' q1 q2 => ?_, c.fresh, c.there, fun j kd' es' q => ?_, fun i e he => ?_, ?_, c.har⟩, rep⟩
  · by_cases hb : b = a
    · subst hb
      rw [upd_same] at q
      rw [ho, ← q]
    · rw [upd_ne hb] at q
      exact c.sub b u q
  · have hb : b ≠ a := fun z => by rw [z] at q2; exact q2 h0
    rw [upd_ne hb]
    exact c.new b q1 q2
  · show as.length = ((setN s.ce k .gone).map _).length
    rw [List.length_map, setN_eq, List.length_set]
    exact c.len
  · obtain ⟨hj, es, q3, _⟩ := cel q2
    have hb : b ≠ a := fun z => hj (inj q1 z)
    rw [upd_ne hb]
    exact c.own j b _ _ q1 q3
  · obtain ⟨hj, es, q3, rfl⟩ := cel q
    obtain ⟨b, ws, w1, w2, w3⟩ := c.cells j _ _ q3
    exact ⟨b, ws, w1, w2, vzs w3⟩
  · have he : (s.sl.map (Option.map (E.fz k (.nd kd ds))))[i]? = some (some e) := he
    rw [List.getElem?_map] at he
    cases q : s.sl[i]? with
    | none => rw [q] at he; cases he
    | some oe =>
      rw [q] at he
      cases oe with
      | none => cases he
      | some e0 =>
        cases he
        obtain ⟨v, w1, w2⟩ := c.slots i e0 q
        exact ⟨v, w1, vz w2⟩
  · show (s.sl.map _).length = σ.length
    rw [List.length_map]
    exact c.slen
/-- the cell k is written -/
def S.put (s : S) (k : Nat) (kd : Kd) (es : List E) : S := ⟨s.sl, setN s.ce k (.nd kd es), s.ar⟩
theorem Cz.put (c : Cz X F as G H σ s) {k : Nat} {a : Addr} {kd kd0 : Kd} {es0 es : List E} {vs : List V} {o : HO} (hk : s.ce[k]? = some (.nd kd0 es0)) (h1 : as[k]? = some a) (hc : CellAt (upd H a o) a vs kd) (hv : VEs X.K G as vs es) :
    Cz X F as G (upd H a o) σ (s.put k kd es) := by
  have gn : G a = none := c.own k a _ _ h1 hk
  have inj : ∀ {j : Nat} {b : Addr}, as[j]? = some b → b = a → j = k := fun {j b} q e => by
    subst e
    obtain ⟨l1, e1⟩ := List.getElem?_eq_some_iff.mp q
    obtain ⟨l2, e2⟩ := List.getElem?_eq_some_iff.mp h1
    exact (List.getElem_inj c.nd).mp (e1.trans e2.symm)
  have am := List.mem_of_getElem? h1
  refine ⟨fun b u q => ?_, c.base, c.new, fun b u q1 q2 => ?_, ?_, c.pre, c.nd, fun j b kd' es' q1 q2 => ?_, c.fresh, fun b hb => ?_, fun j kd' es' q => ?_, c.slots, c.slen, c.har⟩
  · rw [upd_ne (ne_of_none q gn)]; exact c.sub b u q
  · have hb : b ≠ a := fun z => by
      subst z
      rcases c.fresh b am with z | z
      · exact q2 z
      · rw [z] at q1; cases q1
    rw [upd_ne hb]; exact c.frame b u q1 q2
  · show as.length = (setN s.ce k _).length
    rw [setN_eq, List.length_set]; exact c.len
  · have q2 : (setN s.ce k (.nd kd es))[j]? = some (.nd kd' es') := q2
    rw [setN_eq] at q2
    by_cases hj : j = k
    · subst hj
      rw [h1] at q1
      cases q1
      exact gn
    · rw [List.getElem?_set_ne (fun z => hj z.symm)] at q2
      exact c.own j b _ _ q1 q2
  · by_cases hb' : b = a
    · subst hb'; rw [upd_same]; exact fun z => by cases z
    · rw [upd_ne hb']; exact c.there b hb
  · have q : (setN s.ce k (.nd kd es))[j]? = some (.nd kd' es') := q
    rw [setN_eq] at q
    by_cases hj : j = k
    · subst hj
      rw [List.getElem?_set_self (List.getElem?_eq_some_iff.mp hk).1] at q
      cases q
      exact ⟨a, vs, h1, hc, hv⟩
    · rw [List.getElem?_set_ne (fun z => hj z.symm)] at q
      obtain ⟨b, ws, w1, w2, w3⟩ := c.cells j _ _ q
      have hb : b ≠ a := fun z => hj (inj w1 z)
      exact ⟨b, ws, w1, w2.keep fun u z => by rw [upd_ne hb]; exact z, w3⟩
/-- a slot is stored -/
def S.set (s : S) (i : Nat) (e : E) : S := ⟨setN s.sl i (some e), s.ce, s.ar⟩
theorem Cz.set (c : Cz X F as G H σ s) {i : Nat} {v : V} {e : E} (h : VE X.K G as v e) : Cz X F as G H (σ.set i (some v)) (s.set i e) := by
  refine ⟨c.sub, c.base, c.new, c.frame, c.len, c.pre, c.nd, c.own, c.fresh, c.there, c.cells, fun j e' he => ?_, ?_, c.har⟩
  · have he : (setN s.sl i (some e))[j]? = some (some e') := he
    rw [setN_eq] at he
    by_cases hj : j = i
    · subst hj
      by_cases hl : j < s.sl.length
      · rw [List.getElem?_set_self hl] at he
        cases he
        exact ⟨v, by rw [List.getElem?_set_self (by rw [← c.slen]; exact hl)], h⟩
      · rw [List.getElem?_eq_none (by simpa using Nat.le_of_not_lt hl)] at he
        cases he
    · rw [List.getElem?_set_ne (fun z => hj z.symm)] at he
      obtain ⟨w, w1, w2⟩ := c.slots j e' he
      exact ⟨w, by rw [List.getElem?_set_ne (fun z => hj z.symm)]; exact w1, w2⟩
  · show (setN s.sl i (some e)).length = (σ.set i (some v)).length
    rw [setN_eq, List.length_set, List.length_set]
    exact c.slen
/-- less is told: slots forgotten, the cells behind dropped -/
structure Wk (p q : S) : Prop where
  sl : ∀ (i : Nat) (e : E), q.sl[i]? = some (some e) → p.sl[i]? = some (some e)
  len : q.sl.length = p.sl.length
  ce : q.ce <+: p.ce
  ar : q.ar = p.ar
  fit : q.ar ≤ q.ce.length
def E.lt (n : Nat) : E → Bool
  | .d _ => true
  | .r k => decide (k < n)
theorem Cz.weak {s' : S} (c : Cz X F as G H σ s) (w : Wk s s') (h1 : ∀ (i : Nat) (e : E), s'.sl[i]? = some (some e) → e.lt s'.ce.length = true) (h2 : ∀ (k : Nat) (kd : Kd) (es : List E), s'.ce[k]? = some (.nd kd es) → ∀ e ∈ es, E.lt s'.ce.length e = true) :
    Cz X F (as.take s'.ce.length) G H σ s' := by
  have le : s'.ce.length ≤ as.length := by rw [c.len]; exact w.ce.length_le
  have gt : ∀ {k : Nat} {a : Addr}, (as.take s'.ce.length)[k]? = some a → as[k]? = some a := fun {k a} q => by
    have l := (List.getElem?_eq_some_iff.mp q).1
    rw [List.length_take] at l
    rw [List.getElem?_take_of_lt (by omega)] at q
    exact q
  have tg : ∀ {k : Nat} {a : Addr}, k < s'.ce.length → as[k]? = some a → (as.take s'.ce.length)[k]? = some a := fun {k a} l q => by
    rw [List.getElem?_take_of_lt l]; exact q
  have ve : ∀ {v : V} {e : E}, VE X.K G as v e → e.lt s'.ce.length = true → VE X.K G (as.take s'.ce.length) v e := fun {v e} q l => by
    cases e with
    | d x => exact q
    | r k =>
      obtain ⟨a, q1, q2⟩ := q
      exact ⟨a, tg (by simpa [E.lt] using l) q1, q2⟩
  have ves : ∀ {vs : List V} {es : List E}, VEs X.K G as vs es → (∀ e ∈ es, E.lt s'.ce.length e = true) → VEs X.K G (as.take s'.ce.length) vs es := by
    intro vs es h
    induction h with
    | nil => intro _; exact .nil
    | cons h _ ih => intro l; exact .cons (ve h (l _ List.mem_cons_self)) (ih fun e he => l e (List.mem_cons_of_mem _ he))
  have pf : F.A0 <+: as.take s'.ce.length := by
    obtain ⟨t, ht⟩ := c.pre
    have hl : F.A0.length ≤ s'.ce.length := by rw [c.har, ← w.ar]; exact w.fit
    refine ⟨t.take (s'.ce.length - F.A0.length), ?_⟩
    rw [← ht, List.take_append, List.take_of_length_le hl]
  refine ⟨c.sub, c.base, c.new, c.frame, by rw [List.length_take]; omega, pf, c.nd.sublist (List.take_sublist _ _), fun k a kd es q1 q2 => c.own k a kd es (gt q1) (pre_get w.ce q2), fun a ha => c.fresh a (List.mem_of_mem_take ha), fun a ha => c.there a (List.mem_of_mem_take ha), fun k kd es q => ?_, fun i e he => ?_, by rw [w.len]; exact c.slen, by rw [w.ar]; exact c.har⟩
  · obtain ⟨a, vs, q1, q2, q3⟩ := c.cells k kd es (pre_get w.ce q)
    exact ⟨a, vs, tg (List.getElem?_eq_some_iff.mp q).1 q1, q2, ves q3 (h2 k kd es q)⟩
  · obtain ⟨v, q1, q2⟩ := c.slots i e (w.sl i e he)
    exact ⟨v, q1, ve q2 (h1 i e he)⟩
end
end DL
namespace DL
open PySem PySem.Spec PyProof.Rows L2
variable {X : Cx} {F : Fr} {s : S}
/-! ### a context: what every rule asks -/
structure Bx (X : Cx) (k : Nat) : Prop where
  calm : X.calm = true
  nd : X.N.Nodup
  po : PassesOwn (model X.prog X.w) X.A X.env X.xe
  room : Room k X.A
theorem Bx.hu {k : Nat} (B : Bx X k) : X.A.units + 1 < cLine := hu_of B.room
structure GlB (X : Cx) (x : Str) : Prop where
  gl : Gl X x
  mg : X.mg x = none
structure NmW (X : Cx) (i : Nat) (x : Str) : Prop where
  nm : X.N[i]? = some x
  nd : X.N.Nodup
  loc : Loc X.env.scope x
  hf : X.fn x = true ∨ X.env.scope.names.lookup x = some .local
/-! ### builtins -/
def NoStar (e : Expr) : Prop := ∀ (es : List Expr) (env : Env), starEach (e :: es) env = (false, eval e env) :: starEach es env
section
variable {e a b c : Expr} {es rest : List Expr} {Φ : E → S → Prop} {Ψ : Bool → S → Prop} {pos p p2 : Pos} {x : Str} {id T : String} {r : List V → Hp → VK → Prop}
theorem je_cb (hc : CallR X (.builtin id) r) (g : GlB X x) (hv : bootBuiltins x = some (.builtin id)) (h : JA X F (a :: es) s fun vs s1 => JV X F r vs s1 Φ) (hn : x ≠ "__name__" := by decide) (hdb : (x == ("__debug__" : Str)) = false := by decide)
    (he : starEach (a :: es) X.env = (false, eval a X.env) :: starEach es X.env := by rfl) (hpl : (backTo pos (starEach es X.env)).any (·.1) = false := by rfl) : JE X F (.Call (.Name x p) (a :: es) [] pos) s Φ :=
  je_of (pe_callB hc g.gl g.mg hv (pa_sem X _) hn hdb he hpl) fun as G H σ Q c k => h as G H σ _ c fun vs as1 G1 H1 es1 s1 c1 x1 ves h1 => h1 as1 G1 H1 σ vs Q c1 ves fun v as' G' H' e' s' c' x ve q => k v as' G' H' e' s' c' (x1.trans x) ve q
theorem je_ct (hc : CallR X (.type T) r) (g : GlB X x) (hv : bootBuiltins x = some (.type T)) (h : JA X F (a :: es) s fun vs s1 => JV X F r vs s1 Φ) (hn : x ≠ "__name__" := by decide) (hdb : (x == ("__debug__" : Str)) = false := by decide)
    (he : starEach (a :: es) X.env = (false, eval a X.env) :: starEach es X.env := by rfl) (hpl : (backTo pos (starEach es X.env)).any (·.1) = false := by rfl) : JE X F (.Call (.Name x p) (a :: es) [] pos) s Φ :=
  je_of (pe_callTy hc g.gl g.mg hv (pa_sem X _) hn hdb he hpl) fun as G H σ Q c k => h as G H σ _ c fun vs as1 G1 H1 es1 s1 c1 x1 ves h1 => h1 as1 G1 H1 σ vs Q c1 ves fun v as' G' H' e' s' c' x ve q => k v as' G' H' e' s' c' (x1.trans x) ve q
/-- len -/
def LenX (K : PySem.W.Frag) (v : V) (H : Hp) (n : Nat) : Prop := (∃ y, v = .str y ∧ y.length ≤ sizeLine ∧ n = y.length) ∨ ∃ p, v = .ref p ∧ ((∃ xs, SqL K H p xs ∧ n = xs.length) ∨ (∃ xs, SqT K H p xs ∧ n = xs.length) ∨ ∃ kvs, Rd H p (.dK kvs) ∧ n = kvs.length)
def rLen (K : PySem.W.Frag) : List V → Hp → VK → Prop := fun xs H Q => ∃ x n, xs = [x] ∧ LenX K x H n ∧ Q (.int n) H
theorem call_lenX : CallR X (.builtin "len") (rLen X.K) := by
  intro pins st σ H xs us Q I r h
  obtain ⟨x, n, rfl, e, q⟩ := h
  rcases e with ⟨y, rfl, hy, rfl⟩ | ⟨p, rfl, e⟩
  · exact call_len_str pins st σ H _ us Q I r ⟨y, rfl, hy, q⟩
  · rcases e with ⟨ys, hy, rfl⟩ | ⟨ys, hy, rfl⟩ | ⟨kvs, hy, rfl⟩
    · exact call_len_seq pins st σ H _ us Q I r ⟨p, ys, rfl, .inl hy, q⟩
    · exact call_len_seq pins st σ H _ us Q I r ⟨p, ys, rfl, .inr hy, q⟩
    · obtain ⟨u, rfl, rx⟩ := vals1 r
      obtain rfl : u = Value.ref p := rx
      exact d_len I hy fun t s' I' => ⟨.int kvs.length, H, I', ⟨_, rfl⟩, q⟩
theorem je_len (g : GlB X "len") (h : JE X F a s fun e s1 => JV X F (rLen X.K) [e] s1 Φ) (ns : NoStar a := by intro _ _; rfl) : JE X F (.Call (.Name "len" p) [a] [] pos) s Φ :=
  je_cb call_lenX g PySem.boot_len (ja_cons (h.mono fun e s1 q => ja_nil q) (ns _ _)) (he := ns _ _)
theorem jv_len_nd {e : E} {kd : Kd} {es : List E} (h : s.node e = some (kd, es)) (hk : ∀ C fs, kd ≠ .ins C fs) (q : Φ (.d (.int (es.length : Int))) s) : JV X F (rLen X.K) [e] s Φ :=
  fun as G H σ vs Q c ves k => by
    cases ves with
    | cons ve t =>
      cases t
      obtain ⟨a, ws, rfl, n, we⟩ := c.node ve h
      refine ⟨_, es.length, rfl, .inr ⟨a, rfl, ?_⟩, k _ as G H _ s c (Ext.refl _ _) (Rep.int _) q⟩
      have hl := Paired.length we
      cases kd with
      | lst => exact .inl ⟨ws, n, hl.symm⟩
      | tup => exact .inr (.inl ⟨ws, n, hl.symm⟩)
      | dct ks =>
        obtain ⟨n1, n2, od, n3⟩ := n
        exact .inr (.inr ⟨_, .inr ⟨od, n3⟩, by rw [List.length_zip, n1, Nat.min_self, hl]⟩)
      | ins C fs => exact absurd rfl (hk C fs)
theorem jv_len_str {z : Str} (hz : z.length ≤ sizeLine) (q : Φ (.d (.int (z.length : Int))) s) : JV X F (rLen X.K) [.d (.str z)] s Φ :=
  fun as G H σ vs Q c ves k => by
    cases ves with
    | cons ve t =>
      cases t
      cases ve
      exact ⟨_, z.length, rfl, .inl ⟨z, rfl, hz, rfl⟩, k _ as G H _ s c (Ext.refl _ _) (Rep.int _) q⟩
/-- int(x), abs(x), str(i), min, max of two ints -/
def rInt : List V → Hp → VK → Prop := fun xs H Q => (∃ i, xs = [.int i] ∧ Q (.int i) H) ∨ ∃ k, xs = [.bl k] ∧ Q (.int (if k then 1 else 0)) H
theorem je_intc (g : GlB X "int") (h : JE X F a s fun e s1 => JV X F rInt [e] s1 Φ) (ns : NoStar a := by intro _ _; rfl) : JE X F (.Call (.Name "int" p) [a] [] pos) s Φ :=
  je_ct (r := rInt) call_int1 g PyProof.Rows.boot_int (ja_cons (h.mono fun e s1 q => ja_nil q) (ns _ _)) (he := ns _ _)
theorem jv_int_i {i : Int} (q : Φ (.d (.int i)) s) : JV X F rInt [.d (.int i)] s Φ := fun as G H σ vs Q c ves k => by
  cases ves with
  | cons ve t => cases t; cases ve; exact .inl ⟨i, rfl, k _ as G H _ s c (Ext.refl _ _) (Rep.int _) q⟩
theorem jv_int_b {i : Bool} (q : Φ (.d (.int (if i then 1 else 0))) s) : JV X F rInt [.d (.bl i)] s Φ := fun as G H σ vs Q c ves k => by
  cases ves with
  | cons ve t => cases t; cases ve; exact .inr ⟨i, rfl, k _ as G H _ s c (Ext.refl _ _) (Rep.int _) q⟩
def rAbs : List V → Hp → VK → Prop := fun xs H Q => ∃ i, xs = [.int i] ∧ Q (.int (if i < 0 then -i else i)) H
theorem je_abs (g : GlB X "abs") (h : JE X F a s fun e s1 => ∃ i, e = .d (.int i) ∧ Φ (.d (.int (if i < 0 then -i else i))) s1) (ns : NoStar a := by intro _ _; rfl) : JE X F (.Call (.Name "abs" p) [a] [] pos) s Φ :=
  je_cb (r := rAbs) call_abs g PyProof.Rows.boot_abs (ja_cons (h.mono fun e s1 ⟨i, ei, q⟩ => ja_nil fun as G H σ vs Q c ves k => by
    subst ei
    cases ves with
    | cons ve t => cases t; cases ve; exact ⟨i, rfl, k _ as G H _ s1 c (Ext.refl _ _) (Rep.int _) q⟩) (ns _ _)) (he := ns _ _)
def rStrI : List V → Hp → VK → Prop := fun xs H Q => ∃ i : Int, xs = [.int i] ∧ i.natAbs.log2 < 1920 ∧ Q (.str (toString i)) H
theorem je_stri (g : GlB X "str") (h : JE X F a s fun e s1 => ∃ i : Int, e = .d (.int i) ∧ i.natAbs.log2 < 1920 ∧ Φ (.d (.str (toString i))) s1) (ns : NoStar a := by intro _ _; rfl) : JE X F (.Call (.Name "str" p) [a] [] pos) s Φ :=
  je_ct (r := rStrI) call_str_int g PyProof.Rows.boot_str (ja_cons (h.mono fun e s1 ⟨i, ei, h1, q⟩ => ja_nil fun as G H σ vs Q c ves k => by
    subst ei
    cases ves with
    | cons ve t => cases t; cases ve; exact ⟨i, rfl, h1, k _ as G H _ s1 c (Ext.refl _ _) (Rep.str _) q⟩) (ns _ _)) (he := ns _ _)
/-- isinstance(x, T), T a built-in type -/
def tyE (s : S) : E → Option String
  | .d .non => some "NoneType"
  | .d (.bl _) => some "bool"
  | .d (.int _) => some "int"
  | .d (.str _) => some "str"
  | .d (.nd .tup _) => some "tuple"
  | .d (.nd .lst _) => some "list"
  | .d (.nd (.dct _) _) => some "dict"
  | .d (.nd (.ins _ _) _) => none
  | .r i => match nth s.ce i with
    | some (.nd .tup _) => some "tuple"
    | some (.nd .lst _) => some "list"
    | some (.nd (.dct _) _) => some "dict"
    | _ => none
theorem tyx_node {K : PySem.W.Frag} {H : Hp} {a : Addr} {vs : List V} {kd : Kd} {t : String} (n : NodeAt K H a vs kd) (h : (match kd with | .tup => some "tuple" | .lst => some "list" | .dct _ => some "dict" | .ins _ _ => none) = some t) : TyX K H (.ref a) (.type t) := by
  cases kd with
  | tup =>
    cases h
    rcases n with (n | ⟨o, n⟩) | ⟨o, its, k, h1, h2, h3, h4, h5⟩
    · exact .base (.tup n)
    · exact .fTuple n
    · exact .kTuple h1 h2
  | lst =>
    cases h
    rcases n with (n | ⟨o, n⟩) | ⟨o, its, k, h1, h2, h3, h4, h5⟩
    · exact .base (.lst n)
    · exact .base (.frz n)
    · exact .kList h1 h2
  | dct ks =>
    cases h
    obtain ⟨_, _, od, n⟩ := n
    exact .fDict n
  | ins C fs => cases h
theorem tyx_of {as : List Addr} {G H : Hp} {σ : L2.St} (c : Cz X F as G H σ s) {v : V} {e : E} {t : String} (ve : VE X.K G as v e) (h : tyE s e = some t) : TyX X.K H v (.type t) := by
  cases e with
  | d x =>
    cases ve with
    | non => cases h; exact .base .non
    | bl b => cases h; exact .base (.bl b)
    | int i => cases h; exact .base (.int i)
    | str z => cases h; exact .base (.str z)
    | @nd a vs k ds n r =>
      refine tyx_node (n.mono c.sub) ?_
      cases k <;> exact h
  | r i =>
    have h : (match nth s.ce i with
      | some (.nd .tup _) => some "tuple"
      | some (.nd .lst _) => some "list"
      | some (.nd (.dct _) _) => some "dict"
      | _ => none) = some t := h
    rw [nth_eq] at h
    cases hc : s.ce[i]? with
    | none => rw [hc] at h; cases h
    | some cl =>
      rw [hc] at h
      cases cl with
      | gone => cases h
      | nd k es =>
        obtain ⟨a, h1, h2⟩ := ve
        obtain ⟨a', vs, g1, g2, g3⟩ := c.cells i _ _ hc
        rw [h1] at g1
        cases g1
        subst h2
        refine tyx_node g2.node ?_
        cases k <;> exact h
theorem je_isi {x2 : Str} {T : String} (g : GlB X "isinstance") (gt : GlB X x2) (hv : bootBuiltins x2 = some (.type T)) (h : JE X F a s fun e s1 => ∃ t k, tyE s1 e = some t ∧ kitB t T = some k ∧ Φ (.d (.bl k)) s1)
    (hn : x2 ≠ "__name__" := by decide) (hdb : (x2 == ("__debug__" : Str)) = false := by decide) (ns : NoStar a := by intro _ _; rfl) : JE X F (.Call (.Name "isinstance" p) [a, .Name x2 p2] [] pos) s Φ :=
  je_of (pe_callB call_isi g.gl g.mg PyProof.Rows.boot_isinstance (pa_cons (pe_sem X a) (pa_cons (pe_bltn (v := .ty T) gt.gl gt.mg hv rfl hn hdb) pa_nil) (ns _ _)) (he := ns _ _)) fun as G H σ Q c k => h as G H σ _ c fun v as1 G1 H1 e1 s1 c1 x1 ve ⟨t, kk, h1, h2, q⟩ =>
    ⟨v, .ty T, .type t, .type T, kk, rfl, .ty T, tyx_of c1 ve h1, kit_ty h2, k _ as1 G1 H1 _ s1 c1 x1 (Rep.bl _) q⟩
/-- truth of a value, as a test -/
def truE (s : S) : E → Option Bool
  | .d .non => some false
  | .d (.bl b) => some b
  | .d (.int i) => some (i != 0)
  | e => match s.node e with
    | some (.lst, es) => some (!es.isEmpty)
    | some (.tup, es) => some (!es.isEmpty)
    | _ => none
/-! ### new objects -/
def hoOf : Kd → List V → HO
  | .tup, vs => .tup vs
  | .lst, vs => .lst vs
  | .dct ks, vs => .dK (ks.zip vs)
  | .ins _ _, vs => .lst vs
/-- the expression makes a new object: its kind, its members -/
def JN (X : Cx) (F : Fr) (e : Expr) (s : S) (Θ : Kd → List E → S → Prop) : Prop := ∀ as G H σ (Q : VK), Cz X F as G H σ s →
  (∀ q vs as' G' H' kd es s', Cz X F as' G' H' σ s' → Ext as as' G G' → H' q = none → (∀ ks, kd = .dct ks → ks.length = vs.length ∧ ks.Nodup) → VEs X.K G' as' vs es → Θ kd es s' → Q (.ref q) (upd H' q (hoOf kd vs))) → semE X e σ H Q
theorem JN.mono {Θ Θ' : Kd → List E → S → Prop} (h : JN X F e s Θ) (m : ∀ k es s, Θ k es s → Θ' k es s) : JN X F e s Θ' := fun as G H σ Q c k => h as G H σ Q c fun q vs as' G' H' kd es s' c' x hq hk ve t => k q vs as' G' H' kd es s' c' x hq hk ve (m _ _ _ t)
theorem je_new {kd : Kd} (h : JN X F e s fun k es s1 => k = kd ∧ ∃ ds, dsOf es = some ds ∧ Φ (.d (.nd kd ds)) s1) (hk : kd = .tup ∨ kd = .lst) : JE X F e s Φ :=
  fun as G H σ Q c k => h as G H σ Q c fun q vs as' G' H' k' es s' c' x hq _ ve ⟨e1, ds, e2, t⟩ => by
    subst e1
    rw [dsOf_eq e2] at ve
    have sg : Same G' (upd G' q (hoOf k' vs)) := same_new (c'.gnone hq)
    refine k _ as' (upd G' q (hoOf k' vs)) _ (.d (.nd k' ds)) s' (c'.addG hq) (x.trans ⟨List.prefix_refl _, sg⟩) (.nd ?_ (ve.reps.mono sg)) t
    rcases hk with rfl | rfl
    · exact SqT.of upd_same
    · exact SqL.of upd_same
/-- .. owned -/
theorem je_own (h : JN X F e s fun k es s1 => k = .lst ∧ Φ (.r s1.ce.length) (s1.push .lst es)) : JE X F e s Φ :=
  fun as G H σ Q c k => h as G H σ Q c fun q vs as' G' H' k' es s' c' x hq _ ve ⟨e1, t⟩ => by
    subst e1
    exact k _ _ G' _ (.r s'.ce.length) _ (c'.addO (kd := .lst) hq upd_same ve) (x.trans ⟨pre_snoc, Same.refl _⟩) ⟨q, by rw [← c'.len, List.getElem?_append_right (Nat.le_refl _)]; simp, rfl⟩ t
theorem sem_lock {σ : L2.St} {H : Hp} {Q : VK} (h : semE X e σ H fun v H' => ∃ d u, H' d = some u ∧ Mut (some u) ∧ ∀ od, Q v (upd H' d (.frz od u))) : semE X e σ H Q := fun pins st I =>
  thn (h pins st I) fun v s1 ⟨x, H1, I1, r, d, u, hd, mu, q⟩ => by
    obtain ⟨od, I2⟩ := I1.lock hd mu
    exact ⟨x, _, I2, r, q od⟩
theorem je_ownD (h : JN X F e s fun k es s1 => ∃ ks, k = .dct ks ∧ Φ (.r s1.ce.length) (s1.push (.dct ks) es)) : JE X F e s Φ :=
  fun as G H σ Q c k => sem_lock (h as G H σ _ c fun q vs as' G' H' k' es s' c' x hq hks ve ⟨ks, e1, t⟩ => by
    subst e1
    obtain ⟨l1, l2⟩ := hks ks rfl
    refine ⟨q, _, upd_same, trivial, fun od => ?_⟩
    rw [upd_upd]
    exact k _ _ G' _ (.r s'.ce.length) _ (c'.addO (kd := .dct ks) hq ⟨l1, l2, od, upd_same⟩ ve) (x.trans ⟨pre_snoc, Same.refl _⟩) ⟨q, by rw [← c'.len, List.getElem?_append_right (Nat.le_refl _)]; simp, rfl⟩ t)
/-- freezing what an expression hands back -/
theorem je_frz (h : JE X F e s fun e1 s1 => ∃ k kd es ds, e1 = .r k ∧ nth s1.ce k = some (.nd kd es) ∧ dsOf es = some ds ∧ (∀ C fs, kd ≠ .ins C fs) ∧ s1.ar ≤ k ∧ Φ (.d (.nd kd ds)) (s1.fz k (.nd kd ds))) : JE X F e s Φ :=
  fun as G H σ Q c k => h as G H σ Q c fun v as' G' H' e1 s' c' x ve ⟨j, kd, es, ds, e1, e2, e3, e4, e5, t⟩ => by
    subst e1
    rw [dsOf_eq e3] at e2
    obtain ⟨a, G2, h1, x2, c2, rep⟩ := c'.fz e2 e4 e5
    obtain ⟨b, h2, rfl⟩ := ve
    rw [h1] at h2
    cases h2
    exact k _ as' G2 H' _ _ c2 (x.trans x2) rep t
/-- displays -/
theorem jn_lst {Θ : Kd → List E → S → Prop} (h : JA X F es s fun vs s1 => vs.length ≤ sizeLine ∧ Θ .lst vs s1) : JN X F (.List es pos) s Θ := fun as G H σ Q c k => PE.sem (pe_lst (pa_sem X es)) (h as G H σ _ c fun vs as1 G1 H1 es1 s1 c1 x1 ves ⟨h1, h2⟩ =>
  ⟨by rw [Paired.length ves]; exact h1, fun q hq => k q vs as1 G1 H1 .lst es1 s1 c1 x1 hq (fun ks z => by cases z) ves h2⟩)
theorem jn_tup {Θ : Kd → List E → S → Prop} {k1 : Nat} (h : JA X F es s fun vs s1 => vs.length ≤ sizeLine ∧ Θ .tup vs s1) : JN X F (.Tuple es k1 pos) s Θ := fun as G H σ Q c k => PE.sem (pe_tup (pa_sem X es)) (h as G H σ _ c fun vs as1 G1 H1 es1 s1 c1 x1 ves ⟨h1, h2⟩ =>
  ⟨by rw [Paired.length ves]; exact h1, fun q hq => k q vs as1 G1 H1 .tup es1 s1 c1 x1 hq (fun ks z => by cases z) ves h2⟩)
theorem je_tup {k1 : Nat} (h : JA X F es s fun vs s1 => vs.length ≤ sizeLine ∧ ∃ ds, dsOf vs = some ds ∧ Φ (.d (.nd .tup ds)) s1) : JE X F (.Tuple es k1 pos) s Φ :=
  je_new (kd := .tup) (jn_tup (fun as G H σ Q c k => h as G H σ Q c fun vs as' G' H' es' s' c' x ve ⟨h1, ds, h2, h3⟩ => k vs as' G' H' es' s' c' x ve ⟨h1, rfl, ds, h2, h3⟩)) (.inl rfl)
theorem je_lst (h : JA X F es s fun vs s1 => vs.length ≤ sizeLine ∧ ∃ ds, dsOf vs = some ds ∧ Φ (.d (.nd .lst ds)) s1) : JE X F (.List es pos) s Φ :=
  je_new (kd := .lst) (jn_lst (fun as G H σ Q c k => h as G H σ Q c fun vs as' G' H' es' s' c' x ve ⟨h1, ds, h2, h3⟩ => k vs as' G' H' es' s' c' x ve ⟨h1, rfl, ds, h2, h3⟩)) (.inr rfl)
theorem jn_dict0 {Θ : Kd → List E → S → Prop} (h : Θ (.dct []) [] s) : JN X F (.Dict [] [] pos) s Θ := fun as G H σ Q c k => PE.sem pe_dnewK fun q hq => k q [] as G H (.dct []) [] s c (Ext.refl _ _) hq (fun ks z => by cases z; exact ⟨rfl, List.nodup_nil⟩) .nil h
end
/-! ### statements -/
section
variable {e a b c : Expr} {es rest : List Expr} {st : Stmt} {sts : List Stmt} {P : Po} {pos p p' : Pos} {x : Str}
theorem jss_nil (h : P.nx s) : JSs X F [] s P := fun as G H σ D c k => PSs.sem pss_nil (k.nx as G H σ s c (Same.refl _) h)
theorem jss_cons (h : JS X F st s { P with nx := fun s1 => JSs X F sts s1 P }) : JSs X F (st :: sts) s P := fun as G H σ D c k =>
  PSs.sem (pss_cons (ps_sem X st) (pss_sem X sts)) (h as G H σ _ c ⟨fun as' G' H' σ' s' c' x q => q as' G' H' σ' D c' (k.exs x), k.rt, k.bk, k.ct⟩)
theorem js_set {i : Nat} (n : NmW X i x) (h : JE X F e s fun e1 s1 => P.nx (s1.set i e1)) (hs : swapsWith e (some (.Name x p')) pos.line X.env = pure false := by rfl) : JS X F (.Assign [.Name x p'] e pos) s P :=
  fun as G H σ D c k => PS.sem (ps_set n.nd n.nm n.loc (pe_sem X e) hs n.hf) (h as G H σ _ c fun v as1 G1 H1 e1 s1 c1 x1 ve q => k.nx as1 G1 H1 _ _ (c1.set ve) x1.sub q)
theorem js_ret (h : JE X F e s P.rt) : JS X F (.Return (some e) pos) s P := fun as G H σ D c k => PS.sem (ps_ret (pe_sem X e)) (h as G H σ _ c fun v as1 G1 H1 e1 s1 c1 x1 ve q => k.rt v as1 G1 H1 σ e1 s1 c1 x1.sub ve q)
theorem js_retN (h : P.rt (.d .non) s) : JS X F (.Return none pos) s P := fun as G H σ D c k => PS.sem ps_retN (k.rt _ as G H σ _ s c (Same.refl _) Rep.non h)
theorem js_break (h : P.bk s) : JS X F (.Break pos) s P := fun as G H σ D c k => PS.sem ps_break (k.bk as G H σ s c (Same.refl _) h)
theorem js_cont (h : P.ct s) : JS X F (.Continue pos) s P := fun as G H σ D c k => PS.sem ps_continue (k.ct as G H σ s c (Same.refl _) h)
theorem js_expr (h : JE X F e s fun _ s1 => P.nx s1) (hs : swapsWith e none pos.line X.env = pure false := by rfl) : JS X F (.Expr e pos) s P := fun as G H σ D c k => PS.sem (ps_expr (pe_sem X e) hs) (h as G H σ _ c fun v as1 G1 H1 e1 s1 c1 x1 ve q => k.nx as1 G1 H1 σ s1 c1 x1.sub q)
theorem js_doc {z : Str} {j : Nat} (h : P.nx s) : JS X F (.Expr (.Constant (.str z) j p) pos) s P := fun as G H σ D c k => PS.sem ps_doc (k.nx as G H σ s c (Same.refl _) h)
theorem js_if {t u : List Stmt} (h : JT X F c s fun k s1 => if k = true then JSs X F t s1 P else JSs X F u s1 P) : JS X F (.If c t u pos) s P := fun as G H σ D c k =>
  PS.sem (ps_if (pt_sem X _) (pss_sem X t) (pss_sem X u)) (h as G H σ _ c fun b as1 G1 H1 s1 c1 x1 q => by
    cases b with
    | true =>
      simp only [if_true] at q ⊢
      exact q as1 G1 H1 σ D c1 (k.ext x1)
    | false => exact q as1 G1 H1 σ D c1 (k.ext x1))
/-- a, b = x, y -/
theorem js_par {i j : Nat} {y : Str} {px py pt pt2 : Pos} {kt k2 : Nat} {B : Nat} (bx : Bx X B) (n : NmW X i x) (m : NmW X j y) (hij : i ≠ j) (lx : X.env.scope.names.lookup x = some .local) (ly : X.env.scope.names.lookup y = some .local)
    (hw : swappedStores [.Tuple [.Name x px, .Name y py] kt pt] (.Tuple [a, b] k2 pt2) X.env = pure (some [x, y]))
    (h : JE X F a s fun e1 s1 => JE X F b s1 fun e2 s2 => P.nx ((s2.set i e1).set j e2)) 
    (hs : swapsWithSole [.Tuple [.Name x px, .Name y py] kt pt] (.Tuple [a, b] k2 pt2) pos.line X.env = pure false := by rfl) (ns : NoStar a := by intro _ _; rfl) (ns2 : NoStar b := by intro _ _; rfl) : JS X F (.Assign [.Tuple [.Name x px, .Name y py] kt pt] (.Tuple [a, b] k2 pt2) pos) s P :=
  fun as G H σ D c k => PS.sem (ps_par bx.calm n.nd n.nm m.nm hij lx ly (pa_cons (pe_sem X a) (pa_cons (pe_sem X b) pa_nil (ns2 _ _)) (ns _ _)) hw hs)
    (h as G H σ _ c fun v1 as1 G1 H1 e1 s1 c1 x1 ve1 h1 => h1 as1 G1 H1 σ _ c1 fun v2 as2 G2 H2 e2 s2 c2 x2 ve2 q => ⟨v1, v2, rfl, k.nx as2 G2 H2 _ _ ((c2.set (x2.ve ve1)).set ve2) (x1.trans x2).sub q⟩)
/-! targets -/
theorem jg_name {i : Nat} {v : E} {Φ : S → Prop} (n : NmW X i x) (h : Φ (s.set i v)) : JG X F (.Name x p) v s Φ := fun as G H σ u Q c ve k => PG.sem (pg_name n.nd n.nm n.loc n.hf) (k as G H _ _ (c.set ve) (Ext.refl _ _) h)
def JGs (X : Cx) (F : Fr) (ts : List Expr) (es : List E) (s : S) (Φ : S → Prop) : Prop := ∀ as G H σ vs (Q : L2.St → Hp → Prop), Cz X F as G H σ s → VEs X.K G as vs es →
  (∀ as' G' H' σ' s', Cz X F as' G' H' σ' s' → Ext as as' G G' → Φ s' → Q σ' H') →
    ∀ pins st us, Inv X pins σ H st → Vals vs us → wpAny (model X.prog X.w) X.A (assignInOrder ((assignEach ts X.env).map (·.2)) us) (fun _ s' => ∃ σ' H', Inv X pins σ' H' s' ∧ Q σ' H') X.xe st
def semGs (X : Cx) (ts : List Expr) : TGs := fun vs σ H Q => ∀ pins st us, Inv X pins σ H st → Vals vs us → wpAny (model X.prog X.w) X.A (assignInOrder ((assignEach ts X.env).map (·.2)) us) (fun _ s' => ∃ σ' H', Inv X pins σ' H' s' ∧ Q σ' H') X.xe st
theorem pgs_sem (X : Cx) (ts : List Expr) : PGs X ts (semGs X ts) := ⟨fun pins s σ H vs us Q I r h => h pins s us I r⟩
theorem jgs_nil {Φ : S → Prop} (h : Φ s) : JGs X F [] [] s Φ := fun as G H σ vs Q c ve k pins st us I r => by
  cases ve
  exact pgs_nil.run pins st σ H [] us Q I r ⟨rfl, k as G H σ s c (Ext.refl _ _) h⟩
theorem jgs_cons {t : Expr} {ts : List Expr} {v : E} {vs : List E} {Φ : S → Prop} (h : JG X F t v s fun s1 => JGs X F ts vs s1 Φ) (hs : (assignEach (t :: ts) X.env).map (·.2) = assign t X.env :: (assignEach ts X.env).map (·.2) := by rfl) : JGs X F (t :: ts) (v :: vs) s Φ :=
  fun as G H σ ws Q c ve k pins st us I r => by
    cases ve with
    | cons v1 v2 =>
      refine (pgs_cons (pg_sem X t) (u := fun vs σ H Q => ∀ pins st us, Inv X pins σ H st → Vals vs us → wpAny (model X.prog X.w) X.A (assignInOrder ((assignEach ts X.env).map (·.2)) us) (fun _ s' => ∃ σ' H', Inv X pins σ' H' s' ∧ Q σ' H') X.xe st) ⟨fun pins s σ H vs us Q I r h => h pins s us I r⟩ hs).run pins st σ H _ us Q I r ⟨_, _, rfl, ?_⟩
      exact h as G H σ _ _ c v1 fun as1 G1 H1 σ1 s1 c1 x1 q => q as1 G1 H1 σ1 _ Q c1 (x1.ves v2) fun as' G' H' σ' s' c' x t => k as' G' H' σ' s' c' (x1.trans x) t
theorem jg_tup {k1 : Nat} {v : E} {vs : List E} {Φ : S → Prop} {B : Nat} (bx : Bx X B) (hn : s.node v = some (.tup, vs)) (hl : vs.length = es.length) (h : JGs X F es vs s Φ)
    (hn2 : (assignEach es X.env).length = es.length := by rfl) (hst : (assignEach es X.env).findIdx? (·.1) = none := by rfl) : JG X F (.Tuple es k1 p) v s Φ :=
  fun as G H σ u Q c ve k => by
    obtain ⟨a, ws, rfl, n, we⟩ := c.node ve hn
    exact PG.sem (pg_tup (n := es.length) bx.calm (pgs_sem X es) hn2 hst) ⟨a, ws, rfl, n, by rw [Paired.length we, hl], fun pins st us I r => h as G H σ ws Q c we k pins st us I r⟩
theorem js_asg {tg : Expr} (h : JE X F e s fun e1 s1 => JG X F tg e1 s1 P.nx) (hs : swapsWithSole [tg] e pos.line X.env = pure false := by rfl) (hw : swappedStores [tg] e X.env = pure none := by rfl)
    (h1 : (assignEach [tg] X.env).map (·.2) = [assign tg X.env] := by rfl) : JS X F (.Assign [tg] e pos) s P :=
  fun as G H σ D c k => PS.sem (ps_asg (pe_sem X e) (pg_sem X tg) hs hw h1) (h as G H σ _ c fun v as1 G1 H1 e1 s1 c1 x1 ve q => q as1 G1 H1 σ v _ c1 ve fun as' G' H' σ' s' c' x t => k.nx as' G' H' σ' s' c' (x1.trans x).sub t)
/-- xs[i] = v, xs owned -/
theorem jg_setL {o i : Expr} {v : E} {Φ : S → Prop} (h : JE X F o s fun eo s1 => JE X F i s1 fun ei s2 => ∃ k n es j, eo = .r k ∧ ei = .d (.int n) ∧ nth s2.ce k = some (.nd .lst es) ∧ ixN es.length n = some j ∧ Φ (s2.put k .lst (es.set j v)))
    (ha : ∀ v, assign (.Subscript o i p) X.env v = (do
      let ov ← holding [v] (eval o X.env)
      let iv ← holding [v, ov] (eval i X.env)
      standAt p
      holding [v, ov, iv] (setItem ov iv v)
      release [v, ov, iv] []) := by intro _; rfl) : JG X F (.Subscript o i p) v s Φ :=
  fun as G H σ u Q c ve k => PG.sem (pg_sub (pe_sem X o) (pe_sem X i) set_list ha) (h as G H σ _ c fun v1 as1 G1 H1 e1 s1 c1 x1 ve1 h1 => h1 as1 G1 H1 σ _ c1 fun v2 as2 G2 H2 e2 s2 c2 x2 ve2 ⟨kk, n, es, j, q1, q2, q3, q4, q5⟩ => by
    subst q1 q2
    cases ve2
    obtain ⟨a, ha, rfl⟩ := x2.ve ve1
    rw [nth_eq] at q3
    obtain ⟨a', vs, g1, g2, g3⟩ := c2.cells kk _ _ q3
    rw [ha] at g1
    cases g1
    have g2' : H2 a = some (.lst vs) := g2
    have hl := Paired.length g3
    refine ⟨a, vs, n, j, rfl, rfl, g2', by rw [hl]; exact q4, ?_⟩
    have vu := (x1.trans x2).ve ve
    have hv : VEs X.K G2 as2 (vs.set j u) (es.set j v) := by
      clear q4 q5 g2' g2 hl q3
      induction g3 generalizing j with
      | nil => exact .nil
      | cons r t ih =>
        cases j with
        | zero => exact .cons vu t
        | succ j => exact .cons r (ih j)
    exact k as2 G2 _ σ _ (c2.put (kd := .lst) q3 ha upd_same hv) (x1.trans x2) q5)
/-- xs.append(v), xs owned -/
theorem je_append {o e : Expr} {apos : Pos} {Φ : E → S → Prop} (h : JE X F o s fun eo s1 => ∃ k es0, eo = .r k ∧ nth s1.ce k = some (.nd .lst es0) ∧ JE X F e s1 fun v s2 => ∃ es, nth s2.ce k = some (.nd .lst es) ∧ es.length < sizeLine ∧ Φ (.d .non) (s2.put k .lst (es ++ [v])))
    (hbase : attributeBase o "append" X.env (eval o X.env) = eval o X.env := by rfl)
    (hfew : ((backTo pos (starEach (e :: []) X.env)).all (fun x => !x.1) && (backToKw pos (keywordEach [] X.env)).all (fun x => x.1.isSome)
      && decide ((e :: ([] : List Expr)).length + ([] : List Keyword).length + (if ([] : List Keyword).isEmpty then 0 else 1) < 30)) = true := by rfl)
    (hline : (apos.endLine == pos.line) = true := by rfl) (hs : NoStar e := by intro _ _; rfl) (hplain : (backTo pos (starEach [] X.env)).any (·.1) = false := by rfl) :
    JE X F (.Call (.Attribute o "append" apos) [e] [] pos) s Φ :=
  je_of (pe_bm PySem.F.plainAttrs_list PySem.F.slot_list_append PySem.F.type_list_append mt_append (pe_sem X o) (pa_cons (pe_sem X e) pa_nil (hs _ _)) hbase hfew hline (hs _ _) hplain) fun as G H σ Q c kk =>
    h as G H σ _ c fun v1 as1 G1 H1 e1 s1 c1 x1 ve1 ⟨k, es0, q1, q2, h1⟩ => by
      subst q1
      obtain ⟨a, ha, rfl⟩ := ve1
      rw [nth_eq] at q2
      obtain ⟨a', vs, g1, g2, g3⟩ := c1.cells k _ _ q2
      rw [ha] at g1
      cases g1
      refine ⟨.inl ⟨rfl, vs, SqL.of g2⟩, ?_⟩
      refine h1 as1 G1 H1 σ _ c1 fun v2 as2 G2 H2 e2 s2 c2 x2 ve2 ⟨es, w1, w2, w3⟩ => ?_
      rw [nth_eq] at w1
      obtain ⟨b, ws, y1, y2, y3⟩ := c2.cells k _ _ w1
      have ha2 := pre_get x2.pre ha
      rw [ha2] at y1
      cases y1
      have y2' : H2 a = some (.lst ws) := y2
      have hl := Paired.length y3
      refine ⟨a, ws, v2, rfl, rfl, y2', by rw [hl]; exact w2, ?_⟩
      exact kk _ as2 G2 _ _ _ (c2.put (kd := .lst) w1 ha2 upd_same (y3.snoc ve2)) (x1.trans x2) Rep.non w3
end
end DL
namespace DL
open PySem PySem.Spec PyProof.Rows L2
/-! ### a body's context -/
structure XIs (X : Cx) (P : Program) (w : World) (K : PySem.W.Frag) (mg : Str → Option Value) (base : Heap) (N : List Str) (sc : Scope) (k : Nat) : Prop where
  eP : X.prog = P
  eW : X.w = w
  eK : X.K = K
  eM : X.mg = mg
  eB : X.base = base
  eN : X.N = N
  eS : X.env.scope = sc
  calm : X.calm = true
  nd : N.Nodup
  xe : X.xe = fun _ _ => False
  room : Room k X.A
section
variable {X : Cx} {P : Program} {w : World} {K : PySem.W.Frag} {mg : Str → Option Value} {base : Heap} {N : List Str} {sc : Scope} {k : Nat}
theorem XIs.bx (h : XIs X P w K mg base N sc k) : Bx X k := ⟨h.calm, h.eN ▸ h.nd, by rw [h.xe]; exact PassesOwn.never, h.room⟩
theorem XIs.nmR (h : XIs X P w K mg base N sc k) {i : Nat} {x : Str} (h1 : N[i]? = some x) (h2 : Vis sc x) (h3 : (x == ("__debug__" : Str)) = false := by decide) (h4 : (x == ("__classdict__" : Str)) = false := by decide) : NmR X i x := ⟨by rw [h.eN]; exact h1, by rw [h.eS]; exact h2, h3, h4⟩
theorem XIs.nmW (h : XIs X P w K mg base N sc k) {i : Nat} {x : Str} (h1 : N[i]? = some x) (h2 : sc.names.lookup x = some .local) : NmW X i x := ⟨by rw [h.eN]; exact h1, h.eN ▸ h.nd, .inl (by rw [h.eS]; exact h2), .inr (by rw [h.eS]; exact h2)⟩
theorem XIs.nmC (h : XIs X P w K mg base N sc k) {i : Nat} {x : Str} (h1 : N[i]? = some x) (h2 : sc.names.lookup x = some .cell) (hf : X.fn x = true) : NmW X i x := ⟨by rw [h.eN]; exact h1, h.eN ▸ h.nd, .inr (by rw [h.eS]; exact h2), .inl hf⟩
theorem XIs.gl (h : XIs X P w K mg base N sc k) {x : Str} (h1 : sc.names.lookup x = some .globalImplicit) : Gl X x := by
  show X.env.scope.names.lookup x = _
  rw [h.eS]; exact h1
theorem XIs.glb (h : XIs X P w K mg base N sc k) {x : Str} (h1 : sc.names.lookup x = some .globalImplicit) (h2 : mg x = none) : GlB X x := ⟨h.gl h1, by rw [h.eM]; exact h2⟩
theorem XIs.loc (h : XIs X P w K mg base N sc k) {x : Str} (h1 : sc.names.lookup x = some .local) : X.env.scope.names.lookup x = some .local := by rw [h.eS]; exact h1
end
/-! ### what a def promises, over data -/
inductive Rt where
  | dat (x : D) | new (k : Kd) (ds : List D)
def RtAt (K : PySem.W.Frag) (G H' H : Hp) (v : V) : Rt → Prop
  | .dat x => Rep K G v x
  | .new k ds => ∃ a vs, v = .ref a ∧ H a = none ∧ G a = none ∧ CellAt H' a vs k ∧ Reps K G vs ds
abbrev RP := List D → (Rt → Prop) → Prop
/-- a def that owns none of its arguments -/
def spP (K : PySem.W.Frag) (R : RP) : Sp := fun vs H Q _ => ∃ G ds, Same G H ∧ Reps K G vs ds ∧ R ds fun r => ∀ v G' H', Same H H' → Same G G' → Same G' H' → (∀ b, G b = none → H b ≠ none → G' b = none) → RtAt K G' H' H v r → Q v H'
abbrev RC1 := Kd → List D → List D → (Rt → Kd → List D → Prop) → Prop
/-- a def whose first argument is owned -/
def spC (K : PySem.W.Frag) (R : RC1) : Sp := fun vs H Q _ => ∃ a rest cvs kd cds ds G, vs = .ref a :: rest ∧ Same G H ∧ G a = none ∧ CellAt H a cvs kd ∧ Reps K G cvs cds ∧ Reps K G rest ds ∧
  R kd cds ds fun r kd' cds' => ∀ v G' H' cvs', (∀ b o, b ≠ a → H b = some o → H' b = some o) → Same G G' → Same G' H' → (∀ b, G b = none → H b ≠ none → G' b = none) → CellAt H' a cvs' kd' → Reps K G' cvs' cds' → RtAt K G' H' H v r → Q v H'
def MonoP (R : RP) : Prop := ∀ ds p q, (∀ r, p r → q r) → R ds p → R ds q
def MonoC (R : RC1) : Prop := ∀ kd cds ds p q, (∀ r k c, p r k c → q r k c) → R kd cds ds p → R kd cds ds q
structure CaP (P : Program) (w : World) (K : PySem.W.Frag) (mg : Str → Option Value) (base : Heap) (x : Str) (k : Nat) (R : RP) : Prop where
  mono : MonoP R
  ex : ∃ f fd ps, mg x = some (.ref f) ∧ PySem.W.keepIn K (.ref f) = true ∧ Binds K fd ps [] ∧ FnOk P w K mg base CX0 k f fd ps (spP K R)
structure CaC (P : Program) (w : World) (K : PySem.W.Frag) (mg : Str → Option Value) (base : Heap) (x : Str) (k : Nat) (R : RC1) : Prop where
  mono : MonoC R
  ex : ∃ f fd ps, mg x = some (.ref f) ∧ PySem.W.keepIn K (.ref f) = true ∧ Binds K fd ps [] ∧ FnOk P w K mg base CX0 k f fd ps (spC K R)
/-- .. seen from a body -/
structure CbP (X : Cx) (x : Str) (k : Nat) (R : RP) : Prop where
  gl : Gl X x
  mono : MonoP R
  ex : ∃ f fd ps, X.mg x = some (.ref f) ∧ PySem.W.keepIn X.K (.ref f) = true ∧ Binds X.K fd ps [] ∧ FnOk X.prog X.w X.K X.mg X.base CX0 k f fd ps (spP X.K R)
structure CbC (X : Cx) (x : Str) (k : Nat) (R : RC1) : Prop where
  gl : Gl X x
  mono : MonoC R
  ex : ∃ f fd ps, X.mg x = some (.ref f) ∧ PySem.W.keepIn X.K (.ref f) = true ∧ Binds X.K fd ps [] ∧ FnOk X.prog X.w X.K X.mg X.base CX0 k f fd ps (spC X.K R)
theorem CaP.at {X : Cx} {P : Program} {w : World} {K : PySem.W.Frag} {mg : Str → Option Value} {base : Heap} {N : List Str} {sc : Scope} {k j : Nat} {x : Str} {R : RP} (c : CaP P w K mg base x j R) (h : XIs X P w K mg base N sc k)
    (h1 : sc.names.lookup x = some .globalImplicit) : CbP X x j R := by
  obtain ⟨e1, e2, e3, e4, e5, _⟩ := id h
  subst e1 e2 e3 e4 e5
  exact ⟨h.gl h1, c.mono, c.ex⟩
theorem CaC.at {X : Cx} {P : Program} {w : World} {K : PySem.W.Frag} {mg : Str → Option Value} {base : Heap} {N : List Str} {sc : Scope} {k j : Nat} {x : Str} {R : RC1} (c : CaC P w K mg base x j R) (h : XIs X P w K mg base N sc k)
    (h1 : sc.names.lookup x = some .globalImplicit) : CbC X x j R := by
  obtain ⟨e1, e2, e3, e4, e5, _⟩ := id h
  subst e1 e2 e3 e4 e5
  exact ⟨h.gl h1, c.mono, c.ex⟩
/-- what a body must end with -/
def RtE (post : Rt → Prop) : E → S → Prop
  | .d x, _ => post (.dat x)
  | .r k, s => ∃ kd es ds, nth s.ce k = some (.nd kd es) ∧ dsOf es = some ds ∧ s.ar ≤ k ∧ post (.new kd ds)
def entry (N : List Str) (ds : List E) (ce : List Cell) (ar : Nat) : S := ⟨ds.map some ++ List.replicate (N.length - ds.length) none, ce, ar⟩
section
variable {P : Program} {w : World} {K : PySem.W.Frag} {mg : Str → Option Value} {base : Heap} {x qual : Str} {st : Stmt} {f : Addr} {fd : FuncData} {N ps : List Str} {k : Nat}
theorem slots_entry {K : PySem.W.Frag} {G : Hp} {as : List Addr} {vs : List V} {es : List E} (h : VEs K G as vs es) (N : List Str) {i : Nat} {e : E} (q : (es.map some ++ List.replicate (N.length - es.length) none)[i]? = some (some e)) : ∃ v, (L2.start N vs)[i]? = some (some v) ∧ VE K G as v e := by
  unfold L2.start
  by_cases hi : i < es.length
  · rw [List.getElem?_append_left (by rw [List.length_map]; exact hi), List.getElem?_map] at q
    cases e1 : es[i]? with
    | none => rw [e1] at q; cases q
    | some e2 =>
      rw [e1] at q
      cases q
      obtain ⟨v, h1, h2⟩ := h.get' e1
      refine ⟨v, ?_, h2⟩
      rw [List.getElem?_append_left (by rw [List.length_map, Paired.length h]; exact hi), List.getElem?_map, h1]
      rfl
  · rw [List.getElem?_append_right (by rw [List.length_map]; omega), List.getElem?_replicate] at q
    split at q <;> cases q
theorem fn_P {R : RP} (F : Fun K x qual st f fd) (S : FnScope N ps (defScope st)) (hlen : ∀ ds post, R ds post → ds.length = ps.length)
    (body : ∀ (X : Cx) (F : Fr) (ds : List D) (post : Rt → Prop), XIs X P w K mg base N (defScope st) k → (∀ y, X.fn y = true) → X.H_0 = F.H0 → R ds post → JSs X F (defBody st) (entry N (ds.map .d) [] 0) { nx := fun _ => post (.dat .non), rt := RtE post }) :
    FnOk P w K mg base CX0 (k + 1) f fd ps (spP K R) := by
  refine F.ok S (fun vs H Q E h => ?_) fun cdv A outer s H vs Q Ex hr h => ?_
  · obtain ⟨G, ds, _, r, hR⟩ := h
    rw [r.length]; exact hlen ds _ hR
  · obtain ⟨G, ds, sg, r, hR⟩ := h
    refine ⟨_, pss_sem _ _, ?_⟩
    have ve : VEs K G [] vs (ds.map .d) := VEs.ofReps r
    refine body _ ⟨G, H, []⟩ ds _ ⟨rfl, rfl, rfl, rfl, rfl, rfl, rfl, rfl, S.nd, rfl, hr⟩ (fun _ => rfl) rfl hR [] G H _ _ ?_ ?_
    · refine ⟨sg, Same.refl _, fun _ h _ => h, fun _ _ h _ => h, rfl, List.prefix_refl _, List.nodup_nil, fun k a kd es h => by simp at h, fun a h => by simp at h, fun a h => by simp at h, fun k kd es h => ?_, fun i e h => slots_entry ve N h, ?_, rfl⟩
      · have h : ([] : List Cell)[k]? = some (.nd kd es) := h
        simp at h
      · show (((ds.map E.d).map some) ++ List.replicate (N.length - (ds.map E.d).length) none).length = (L2.start N vs).length
        unfold L2.start
        simp [r.length]
    · have fin : ∀ {as' : List Addr} {G' H' : Hp} {σ' : L2.St} {s' : DL.S}, Cz (cxOf CX0 P w K mg base N qual (defScope st) f cdv A outer s H Ex).nox ⟨G, H, []⟩ as' G' H' σ' s' → Same H H' := fun {as' G' H' σ' s'} c b o q => c.frame b o q (by simp)
      refine ⟨fun as' G' H' σ' s' c x q => q .non G' H' (fin c) c.base c.sub c.new .non, fun v as' G' H' σ' e' s' c x ve q => ?_, fun _ _ _ _ _ _ _ q => q.elim, fun _ _ _ _ _ _ _ q => q.elim⟩
      cases e' with
      | d y => exact q v G' H' (fin c) c.base c.sub c.new ve
      | r j =>
        obtain ⟨kd, es, ds', q1, q2, q3, q4⟩ := q
        rw [nth_eq] at q1
        obtain ⟨a, h1, h2⟩ := ve
        obtain ⟨a', ws, g1, g2, g3⟩ := c.cells j _ _ q1
        rw [h1] at g1
        cases g1
        rw [dsOf_eq q2] at g3
        exact q4 v G' H' (fin c) c.base c.sub c.new ⟨a, ws, h2, (c.fresh a (List.mem_of_getElem? h1)).resolve_left (by simp), c.own j a _ _ h1 q1, g2, g3.reps⟩
theorem fn_C {R : RC1} (F : Fun K x qual st f fd) (S : FnScope N ps (defScope st)) (hlen : ∀ kd cds ds post, R kd cds ds post → ds.length + 1 = ps.length)
    (body : ∀ (X : Cx) (F : Fr) (kd : Kd) (cds ds : List D) (post : Rt → Kd → List D → Prop), XIs X P w K mg base N (defScope st) k → (∀ y, X.fn y = true) → X.H_0 = F.H0 → R kd cds ds post → JSs X F (defBody st) (entry N (.r 0 :: ds.map .d) [.nd kd (cds.map .d)] 1)
      { nx := fun s => ∃ kd' es' cds', nth s.ce 0 = some (.nd kd' es') ∧ dsOf es' = some cds' ∧ post (.dat .non) kd' cds', rt := fun e s => ∃ kd' es' cds', nth s.ce 0 = some (.nd kd' es') ∧ dsOf es' = some cds' ∧ RtE (fun r => post r kd' cds') e s }) :
    FnOk P w K mg base CX0 (k + 1) f fd ps (spC K R) := by
  refine F.ok S (fun vs H Q E h => ?_) fun cdv A outer s H vs Q Ex hr h => ?_
  · obtain ⟨a, rest, cvs, kd, cds, ds, G, rfl, _, _, _, _, r, hR⟩ := h
    rw [List.length_cons, r.length]; exact hlen _ _ ds _ hR
  · obtain ⟨a, rest, cvs, kd, cds, ds, G, rfl, sg, ga, ca, rc, r, hR⟩ := h
    refine ⟨_, pss_sem _ _, ?_⟩
    have ve : VEs K G [a] (.ref a :: rest) (.r 0 :: ds.map .d) := .cons ⟨a, rfl, rfl⟩ (VEs.ofReps r)
    refine body _ ⟨G, H, [a]⟩ kd cds ds _ ⟨rfl, rfl, rfl, rfl, rfl, rfl, rfl, rfl, S.nd, rfl, hr⟩ (fun _ => rfl) rfl hR [a] G H _ _ ?_ ?_
    · refine ⟨sg, Same.refl _, fun _ h _ => h, fun _ _ h _ => h, rfl, List.prefix_refl _, by simp, fun k b kd es h h2 => ?_, fun b h => .inl h, fun b h => ?_, fun k kd' es h => ?_, fun i e h => slots_entry ve N h, ?_, rfl⟩
      · have hb : b = a := by
          have := List.mem_of_getElem? h
          simpa using this
        rw [hb]; exact ga
      · have hb : b = a := by simpa using h
        obtain ⟨o, ho⟩ := ca.some
        rw [hb, ho]
        exact fun z => by cases z
      · have h : ([Cell.nd kd (cds.map .d)])[k]? = some (.nd kd' es) := h
        cases k with
        | zero =>
          cases h
          exact ⟨a, cvs, rfl, ca, VEs.ofReps rc⟩
        | succ k => simp at h
      · show (((E.r 0 :: ds.map E.d).map some) ++ List.replicate (N.length - (E.r 0 :: ds.map E.d).length) none).length = (L2.start N (.ref a :: rest)).length
        unfold L2.start
        simp [r.length]
    · have fin : ∀ {as' : List Addr} {G' H' : Hp} {σ' : L2.St} {s' : DL.S}, Cz (cxOf CX0 P w K mg base N qual (defScope st) f cdv A outer s H Ex).nox ⟨G, H, [a]⟩ as' G' H' σ' s' → ∀ b o, b ≠ a → H b = some o → H' b = some o := fun {as' G' H' σ' s'} c b o hb q => c.frame b o q (by simpa using hb)
      have cell : ∀ {as' : List Addr} {G' H' : Hp} {σ' : L2.St} {s' : DL.S} {kd' : Kd} {es' : List E} {cds' : List D}, Cz (cxOf CX0 P w K mg base N qual (defScope st) f cdv A outer s H Ex).nox ⟨G, H, [a]⟩ as' G' H' σ' s' → nth s'.ce 0 = some (.nd kd' es') → dsOf es' = some cds' →
          ∃ cvs', CellAt H' a cvs' kd' ∧ Reps K G' cvs' cds' := fun {as' G' H' σ' s' kd' es' cds'} c q1 q2 => by
        rw [nth_eq] at q1
        obtain ⟨b, ws, g1, g2, g3⟩ := c.cells 0 _ _ q1
        have : as'[0]? = some a := pre_get c.pre (k := 0) (a := a) rfl
        rw [this] at g1
        cases g1
        rw [dsOf_eq q2] at g3
        exact ⟨ws, g2, g3.reps⟩
      refine ⟨fun as' G' H' σ' s' c x ⟨kd', es', cds', q1, q2, q⟩ => ?_, fun v as' G' H' σ' e' s' c x ve ⟨kd', es', cds', q1, q2, q⟩ => ?_, fun _ _ _ _ _ _ _ q => q.elim, fun _ _ _ _ _ _ _ q => q.elim⟩
      · obtain ⟨cvs', y1, y2⟩ := cell c q1 q2
        exact q .non G' H' cvs' (fin c) c.base c.sub c.new y1 y2 .non
      · obtain ⟨cvs', y1, y2⟩ := cell c q1 q2
        cases e' with
        | d y => exact q v G' H' cvs' (fin c) c.base c.sub c.new y1 y2 ve
        | r j =>
          obtain ⟨kd, es, ds', q1, q2, q3, q4⟩ := q
          rw [nth_eq] at q1
          obtain ⟨b, h1, h2⟩ := ve
          obtain ⟨b', ws, g1, g2, g3⟩ := c.cells j _ _ q1
          rw [h1] at g1
          cases g1
          rw [dsOf_eq q2] at g3
          refine q4 v G' H' cvs' (fin c) c.base c.sub c.new y1 y2 ⟨b, ws, h2, (c.fresh b (List.mem_of_getElem? h1)).resolve_left fun z => ?_, c.own j b _ _ h1 q1, g2, g3.reps⟩
          have hb : b = a := by simpa using z
          subst hb
          have w0 : as'[0]? = some b := pre_get c.pre (k := 0) (a := b) rfl
          obtain ⟨l1, e1⟩ := List.getElem?_eq_some_iff.mp h1
          obtain ⟨l2, e2⟩ := List.getElem?_eq_some_iff.mp w0
          have := (List.getElem_inj c.nd).mp (e1.trans e2.symm)
          have har := c.har
          have : s'.ar = 1 := har.symm
          omega
end
/-! ### calls -/
/-! immutable data -/
mutual
def D.imm : D → Bool
  | .nd .tup ds => D.imms ds
  | .nd .lst _ => false
  | .nd (.dct _) _ => false
  | .nd (.ins _ _) _ => false
  | .non => true | .bl _ => true | .int _ => true | .str _ => true
def D.imms : List D → Bool
  | [] => true
  | d :: ds => D.imm d && D.imms ds
end
def S.view (s : S) : E → Option D
  | .d x => some x
  | .r k => match nth s.ce k with
    | some (.nd .lst es) => (dsOf es).map (.nd .lst)
    | some (.nd (.dct ks) es) => (dsOf es).map (.nd (.dct ks))
    | _ => none
def S.views (s : S) : List E → Option (List D)
  | [] => some []
  | e :: es => match s.view e, s.views es with
    | some d, some ds => some (d :: ds)
    | _, _ => none
variable {X : Cx} {F : Fr} {s : S}
section
variable {e a b c : Expr} {es rest : List Expr} {Φ : E → S → Prop} {pos p p2 : Pos} {x : Str} {k B : Nat}
def RtΦ (Φ : E → S → Prop) (s : S) : Rt → Prop
  | .dat x => Φ (.d x) s
  | .new kd ds => Φ (.r s.ce.length) (s.push kd (ds.map .d))
theorem rtΦ_dat {d : D} (h : Φ (.d d) s) : RtΦ Φ s (.dat d) := h
theorem rtΦ_new {kd : Kd} {ds : List D} (h : Φ (.r s.ce.length) (s.push kd (ds.map .d))) : RtΦ Φ s (.new kd ds) := h
theorem rtE_d {post : Rt → Prop} {d : D} (h : post (.dat d)) : RtE post (.d d) s := h
theorem Cz.call {as : List Addr} {G H G' H' : Hp} {σ : L2.St} (c : Cz X F as G H σ s) (h1 : Same H H') (h2 : Same G G') (h3 : Same G' H') (h4 : ∀ b, G b = none → H b ≠ none → G' b = none) : Cz X F as G' H' σ s := by
  refine ⟨h3, c.base.trans h2, fun b q1 q2 => ?_, fun b o q1 q2 => h1 b o (c.frame b o q1 q2), c.len, c.pre, c.nd, fun k a kd es q1 q2 => ?_, c.fresh, fun a ha z => ?_, fun k kd es q => ?_, fun i e q => ?_, c.slen, c.har⟩
  · refine h4 b (c.new b q1 q2) fun z => ?_
    cases q : F.H0 b with
    | none => exact q2 q
    | some o =>
      by_cases hA : b ∈ F.A0
      · exact c.there b (c.pre.subset hA) z
      · have := c.frame b o q hA
        rw [z] at this; cases this
  · exact h4 a (c.own k a kd es q1 q2) (c.there a (List.mem_of_getElem? q1))
  · cases q : H a with
    | none => exact c.there a ha q
    | some o => rw [h1 a o q] at z; cases z
  · obtain ⟨a, vs, w1, w2, w3⟩ := c.cells k kd es q
    exact ⟨a, vs, w1, w2.keep fun o q => h1 a o q, w3.mono (List.prefix_refl _) h2⟩
  · obtain ⟨v, w1, w2⟩ := c.slots i e q
    exact ⟨v, w1, w2.mono (List.prefix_refl _) h2⟩
/-- a new owned object that a callee has made -/
theorem Cz.grow {as : List Addr} {G H : Hp} {σ : L2.St} (c : Cz X F as G H σ s) {a : Addr} {vs : List V} {kd : Kd} {es : List E} (h1 : G a = none) (h2 : a ∉ as) (h0 : F.H0 a = none) (h3 : CellAt H a vs kd) (h4 : VEs X.K G as vs es) : Cz X F (as ++ [a]) G H σ (s.push kd es) := by
  have pr : as <+: as ++ [a] := pre_snoc
  refine ⟨c.sub, c.base, c.new, c.frame, ?_, c.pre.trans pr, ?_, fun k b kd' es' q1 q2 => ?_, fun b hb => ?_, fun b hb => ?_, fun k kd' es' q => ?_, fun i e q => ?_, c.slen, c.har⟩
  · show (as ++ [a]).length = (s.ce ++ [Cell.nd kd es]).length
    rw [List.length_append, List.length_append, c.len]; rfl
  · rw [List.nodup_append]
    exact ⟨c.nd, by simp, fun b hb d hd => by
      have : d = a := by simpa using hd
      subst this
      exact fun z => h2 (z ▸ hb)⟩
  · have q2 : (s.ce ++ [Cell.nd kd es])[k]? = some (.nd kd' es') := q2
    by_cases hk : k < as.length
    · rw [List.getElem?_append_left hk] at q1
      rw [List.getElem?_append_left (by rw [← c.len]; exact hk)] at q2
      exact c.own k b _ _ q1 q2
    · rw [List.getElem?_append_right (by omega)] at q1
      have : b = a := by simpa using List.mem_of_getElem? q1
      rw [this]; exact h1
  · rcases List.mem_append.mp hb with hb | hb
    · exact c.fresh b hb
    · have : b = a := by simpa using hb
      rw [this]; exact .inr h0
  · rcases List.mem_append.mp hb with hb | hb
    · exact c.there b hb
    · have : b = a := by simpa using hb
      rw [this]
      obtain ⟨o, ho⟩ := h3.some
      rw [ho]; exact fun z => by cases z
  · have q : (s.ce ++ [Cell.nd kd es])[k]? = some (.nd kd' es') := q
    by_cases hk : k < as.length
    · rw [List.getElem?_append_left (by rw [← c.len]; exact hk)] at q
      obtain ⟨b, ws, w1, w2, w3⟩ := c.cells k _ _ q
      exact ⟨b, ws, pre_get pr w1, w2, w3.mono pr (Same.refl _)⟩
    · rw [List.getElem?_append_right (by rw [← c.len]; omega)] at q
      have l := (List.getElem?_eq_some_iff.mp q).1
      have hk0 : k - s.ce.length = 0 := by simp at l; exact l
      rw [hk0] at q
      cases q
      have hke : k = as.length := by have := c.len; omega
      exact ⟨a, vs, by rw [hke, List.getElem?_append_right (Nat.le_refl _)]; simp, h3, h4.mono pr (Same.refl _)⟩
  · obtain ⟨v, w1, w2⟩ := c.slots i e q
    exact ⟨v, w1, w2.mono pr (Same.refl _)⟩
theorem je_callP {R : RP} (cb : CbP X x k R) (bx : Bx X B) (hB : k ≤ B)
    (h : JA X F (a :: es) s fun vs s1 => ∃ ds, dsOf vs = some ds ∧ R ds (RtΦ Φ s1)) (hdb : (x == ("__debug__" : Str)) = false := by decide) (he : starEach (a :: es) X.env = (false, eval a X.env) :: starEach es X.env := by rfl)
    (hpl : (backTo pos (starEach es X.env)).any (·.1) = false := by rfl) : JE X F (.Call (.Name x p) (a :: es) [] pos) s Φ := by
  obtain ⟨f, fd, ps, h1, h2, h3, h4⟩ := cb.ex
  refine je_of (pe_call h4 (bx.room.mono hB) cb.gl h1 h2 h3 .nil pass0 (pa_sem X _) hdb he hpl) fun as G H σ Q c kk => h as G H σ _ c fun vs as1 G1 H1 es1 s1 c1 x1 ves ⟨ds, e1, hR⟩ => ?_
  rw [List.append_nil]
  rw [dsOf_eq e1] at ves
  refine ⟨G1, ds, c1.sub, ves.reps, cb.mono ds _ _ (fun r hr v G' H' q1 q2 q3 q4 q5 => ?_) hR⟩
  have c2 := c1.call q1 q2 q3 q4
  have x2 : Ext as1 as1 G1 G' := ⟨List.prefix_refl _, q2⟩
  cases r with
  | dat y => exact kk v as1 G' H' (.d y) s1 c2 (x1.trans x2) q5 hr
  | new kd ds' =>
    obtain ⟨b, ws, rfl, w1, w2, w3, w4⟩ := q5
    have c3 := c2.grow (kd := kd) (es := ds'.map .d) w2 (c1.notin w1) (c1.h0none w1) w3 (VEs.ofReps w4)
    exact kk _ _ G' H' (.r s1.ce.length) _ c3 ((x1.trans x2).trans ⟨pre_snoc, Same.refl _⟩) ⟨b, by rw [← c1.len, List.getElem?_append_right (Nat.le_refl _)]; simp, rfl⟩ hr
theorem je_callC {R : RC1} (cb : CbC X x k R) (bx : Bx X B) (hB : k ≤ B)
    (h : JA X F (a :: es) s fun vs s1 => ∃ j rest ds es0 cds, vs = .r j :: rest ∧ dsOf rest = some ds ∧ nth s1.ce j = some (.nd .lst es0) ∧ dsOf es0 = some cds ∧ R .lst cds ds fun r kd' cds' => RtΦ Φ (s1.put j kd' (cds'.map .d)) r) (hdb : (x == ("__debug__" : Str)) = false := by decide)
    (he : starEach (a :: es) X.env = (false, eval a X.env) :: starEach es X.env := by rfl) (hpl : (backTo pos (starEach es X.env)).any (·.1) = false := by rfl) : JE X F (.Call (.Name x p) (a :: es) [] pos) s Φ := by
  obtain ⟨f, fd, ps, h1, h2, h3, h4⟩ := cb.ex
  refine je_of (pe_call h4 (bx.room.mono hB) cb.gl h1 h2 h3 .nil pass0 (pa_sem X _) hdb he hpl) fun as G H σ Q c kk => h as G H σ _ c fun vs as1 G1 H1 es1 s1 c1 x1 ves ⟨j, rest, ds, es0, cds, e0, e1, e2, e3, hR⟩ => ?_
  rw [List.append_nil]
  subst e0
  rw [dsOf_eq e1] at ves
  rw [nth_eq] at e2
  cases ves with
  | cons v1 v2 =>
    obtain ⟨a, ha, rfl⟩ := v1
    obtain ⟨a', cvs, g1, g2, g3⟩ := c1.cells j _ _ e2
    rw [ha] at g1
    cases g1
    rw [dsOf_eq e3] at g3
    have ga := c1.own j a _ _ ha e2
    refine ⟨a, _, cvs, .lst, cds, ds, G1, rfl, c1.sub, ga, g2, g3.reps, (VEs.reps v2), cb.mono _ _ _ _ _ (fun r kd' cds' hr v G' H' cvs' q1 q2 q3 q4 q5 q6 q7 => ?_) hR⟩
    -- the state behind: H' is H'' with a written, H'' what keeps all
    have am := List.mem_of_getElem? ha
    have gn' : G' a = none := q4 a ga (c1.there a am)
    obtain ⟨o', ho'⟩ := q5.some
    have inj : ∀ {i : Nat} {b : Addr}, as1[i]? = some b → b = a → i = j := fun {i b} q e => by
      subst e
      obtain ⟨l1, e1⟩ := List.getElem?_eq_some_iff.mp q
      obtain ⟨l2, e2⟩ := List.getElem?_eq_some_iff.mp ha
      exact (List.getElem_inj c1.nd).mp (e1.trans e2.symm)
    have g2' : H1 a = some (.lst cvs) := g2
    have hsame : Same H1 (upd H' a (.lst cvs)) := fun b o q => by
      by_cases hb : b = a
      · subst hb; rw [upd_same, ← g2', q]
      · rw [upd_ne hb]; exact q1 b o hb q
    have c2 : Cz X F as1 G' (upd H' a (.lst cvs)) σ s1 := c1.call hsame q2 (fun b o q => by
      have hb : b ≠ a := fun z => by rw [z, gn'] at q; cases q
      rw [upd_ne hb]; exact q3 b o q) q4
    have eH : upd (upd H' a (.lst cvs)) a o' = H' := by
      rw [upd_upd]
      funext b
      unfold upd
      by_cases hb : b = a
      · rw [if_pos hb, hb, ho']
      · rw [if_neg hb]
    have c3 : Cz X F as1 G' H' σ (s1.put j kd' (cds'.map .d)) := by
      have := c2.put (kd := kd') (es := cds'.map .d) (vs := cvs') (o := o') e2 ha (by rw [eH]; exact q5) (VEs.ofReps q6)
      rw [eH] at this
      exact this
    have x2 : Ext as1 as1 G1 G' := ⟨List.prefix_refl _, q2⟩
    cases r with
    | dat y => exact kk v as1 G' H' (.d y) _ c3 (x1.trans x2) q7 hr
    | new kd2 ds' =>
      obtain ⟨b, ws, rfl, w1, w2, w3, w4⟩ := q7
      have c4 := c3.grow (kd := kd2) (es := ds'.map .d) w2 (c1.notin w1) (c1.h0none w1) w3 (VEs.ofReps w4)
      refine kk _ _ G' H' (.r (s1.put j kd' (cds'.map .d)).ce.length) _ c4 ((x1.trans x2).trans ⟨pre_snoc, Same.refl _⟩) ⟨b, ?_, rfl⟩ hr
      have hl : (s1.put j kd' (cds'.map .d)).ce.length = as1.length := by
        show (setN s1.ce j _).length = _
        rw [setN_eq, List.length_set, c1.len]
      rw [hl, List.getElem?_append_right (Nat.le_refl _)]
      simp
/-! borrowed cells -/
theorem imm_keep {K : PySem.W.Frag} {G G2 : Hp} (ht : ∀ a vs, Rd G a (.tup vs) → Rd G2 a (.tup vs)) : (∀ (d : D) (v : V), Rep K G v d → d.imm = true → Rep K G2 v d) := by
  have main : ∀ n : Nat, (∀ (d : D) (v : V), sizeOf d < n → Rep K G v d → d.imm = true → Rep K G2 v d) ∧ (∀ (ds : List D) (vs : List V), sizeOf ds < n → Reps K G vs ds → D.imms ds = true → Reps K G2 vs ds) := by
    intro n
    induction n with
    | zero => exact ⟨fun _ _ h => absurd h (Nat.not_lt_zero _), fun _ _ h => absurd h (Nat.not_lt_zero _)⟩
    | succ n ih =>
      refine ⟨fun d v hs h hi => ?_, fun ds vs hs h hi => ?_⟩
      · cases h with
        | non => exact .non
        | bl b => exact .bl b
        | int i => exact .int i
        | str x => exact .str x
        | @nd a ws k es nd r =>
          cases k with
          | tup =>
            have hi' : D.imms es = true := by simpa [D.imm] using hi
            refine .nd ?_ (ih.2 es ws (by simp at hs; omega) r hi')
            rcases nd with h | h
            · exact .inl (ht _ _ h)
            · exact .inr h
          | _ => simp [D.imm] at hi
      · cases h with
        | nil => exact .nil
        | @cons v d ws es h t =>
          simp [D.imms] at hi
          exact .cons (ih.1 d v (by simp at hs; omega) h hi.1) (ih.2 es ws (by simp at hs; omega) t hi.2)
  exact fun d v h hi => (main (sizeOf d + 1)).1 d v (Nat.lt_succ_self _) h hi
theorem imm_keeps {K : PySem.W.Frag} {G G2 : Hp} (ht : ∀ a vs, Rd G a (.tup vs) → Rd G2 a (.tup vs)) : ∀ (ds : List D) (vs : List V), Reps K G vs ds → D.imms ds = true → Reps K G2 vs ds
  | _, _, .nil, _ => .nil
  | _, _, .cons h t, hi => by
    simp [D.imms] at hi
    exact .cons (imm_keep ht _ _ h hi.1) (imm_keeps ht _ _ t hi.2)
def Rt.imm : Rt → Bool
  | .dat x => x.imm
  | .new _ ds => D.imms ds
/-- the heap in which the owned cells are read, not written -/
def Alive (s : S) (as : List Addr) (b : Addr) : Prop := ∃ (k : Nat) (kd : Kd) (es : List E), as[k]? = some b ∧ s.ce[k]? = some (.nd kd es)
open Classical in
noncomputable def lend (s : S) (as : List Addr) (G H : Hp) : Hp := fun b => match G b with
  | some o => some o
  | none => if Alive s as b then H b else none
theorem lend_sub {as : List Addr} {G H : Hp} : Same G (lend s as G H) := fun b o h => by unfold lend; rw [h]
theorem lend_yes {as : List Addr} {G H : Hp} {b : Addr} (h : G b = none) (a : Alive s as b) : lend s as G H b = H b := by unfold lend; rw [h]; exact if_pos a
theorem lend_no {as : List Addr} {G H : Hp} {b : Addr} (h : G b = none) (a : ¬ Alive s as b) : lend s as G H b = none := by unfold lend; rw [h]; exact if_neg a
theorem lend_in {as : List Addr} {G H : Hp} (e : Same G H) : Same (lend s as G H) H := fun b o h => by
  cases q : G b with
  | some u => rw [lend_sub b u q] at h; rw [e b u q]; exact h
  | none =>
    by_cases a : Alive s as b
    · rw [lend_yes q a] at h; exact h
    · rw [lend_no q a] at h; cases h
theorem Cz.view {as : List Addr} {G H : Hp} {σ : L2.St} (c : Cz X F as G H σ s) {v : V} {e : E} {d : D} (ve : VE X.K G as v e) (h : s.view e = some d) : Rep X.K (lend s as G H) v d := by
  cases e with
  | d x => cases h; exact Rep.mono lend_sub ve
  | r k =>
    obtain ⟨a, h1, rfl⟩ := ve
    have h : (match nth s.ce k with
      | some (.nd .lst es) => (dsOf es).map (.nd .lst)
      | some (.nd (.dct ks) es) => (dsOf es).map (.nd (.dct ks))
      | _ => none) = some d := h
    rw [nth_eq] at h
    have key : ∀ {kd : Kd} {es : List E} {ds : List D}, s.ce[k]? = some (.nd kd es) → dsOf es = some ds → Rep X.K (lend s as G H) (.ref a) (.nd kd ds) := fun {kd es ds} q1 q2 => by
      obtain ⟨b, vs, g1, g2, g3⟩ := c.cells k _ _ q1
      rw [h1] at g1
      cases g1
      rw [dsOf_eq q2] at g3
      have la : ∀ o, H a = some o → lend s as G H a = some o := fun o q => by
        rw [lend_yes (c.own k a _ _ h1 q1) ⟨k, _, _, h1, q1⟩]
        exact q
      have : CellAt (lend s as G H) a vs kd := g2.keep la
      exact .nd this.node (g3.reps.mono lend_sub)
    cases hc : s.ce[k]? with
    | none => rw [hc] at h; cases h
    | some cl =>
      rw [hc] at h
      cases cl with
      | gone => cases h
      | nd kd es =>
        cases kd with
        | lst =>
          cases q : dsOf es with
          | none => simp [q] at h
          | some ds => simp [q] at h; subst h; exact key hc q
        | dct ks =>
          cases q : dsOf es with
          | none => simp [q] at h
          | some ds => simp [q] at h; subst h; exact key hc q
        | tup => cases h
        | ins C fs => cases h
theorem Cz.views {as : List Addr} {G H : Hp} {σ : L2.St} (c : Cz X F as G H σ s) : ∀ {vs : List V} {es : List E} {ds : List D}, VEs X.K G as vs es → s.views es = some ds → Reps X.K (lend s as G H) vs ds
  | _, _, ds, .nil, h => by cases h; exact .nil
  | _, e :: es, ds, .cons h t, q => by
    unfold S.views at q
    cases q1 : s.view e with
    | none => rw [q1] at q; simp at q
    | some d =>
      cases q2 : s.views es with
      | none => rw [q1, q2] at q; simp at q
      | some ds' =>
        rw [q1, q2] at q
        simp at q
        subst q
        exact .cons (c.view h q1) (c.views t q2)
theorem je_callB {R : RP} (cb : CbP X x k R) (bx : Bx X B) (hB : k ≤ B)
    (h : JA X F (a :: es) s fun vs s1 => ∃ ds, s1.views vs = some ds ∧ R ds fun r => r.imm = true ∧ RtΦ Φ s1 r) (hdb : (x == ("__debug__" : Str)) = false := by decide) (he : starEach (a :: es) X.env = (false, eval a X.env) :: starEach es X.env := by rfl)
    (hpl : (backTo pos (starEach es X.env)).any (·.1) = false := by rfl) : JE X F (.Call (.Name x p) (a :: es) [] pos) s Φ := by
  obtain ⟨f, fd, ps, h1, h2, h3, h4⟩ := cb.ex
  refine je_of (pe_call h4 (bx.room.mono hB) cb.gl h1 h2 h3 .nil pass0 (pa_sem X _) hdb he hpl) fun as G H σ Q c kk => h as G H σ _ c fun vs as1 G1 H1 es1 s1 c1 x1 ves ⟨ds, e1, hR⟩ => ?_
  rw [List.append_nil]
  refine ⟨lend s1 as1 G1 H1, ds, lend_in c1.sub, c1.views ves e1, cb.mono ds _ _ (fun r ⟨hi, hr⟩ v G' H' q1 q2 q3 q4 q5 => ?_) hR⟩
  -- what is frozen behind: G' without the owned
  obtain ⟨G2, hG2, hG3⟩ : ∃ G2 : Hp, (∀ b, Alive s1 as1 b → G2 b = none) ∧ ∀ b, ¬ Alive s1 as1 b → G2 b = G' b := by
    classical
    exact ⟨fun b => if Alive s1 as1 b then none else G' b, fun b h => if_pos h, fun b h => if_neg h⟩
  have ga : ∀ {b : Addr}, Alive s1 as1 b → G1 b = none := fun {b} ⟨k, kd, es, w1, w2⟩ => c1.own k b _ _ w1 w2
  have s1' : Same G1 G2 := fun b o q => by
    rw [hG3 b (fun z => by rw [ga z] at q; cases q)]
    exact q2 b o (lend_sub b o q)
  have s2' : Same G2 H' := fun b o q => by
    by_cases hb : Alive s1 as1 b
    · rw [hG2 b hb] at q; cases q
    · rw [hG3 b hb] at q; exact q3 b o q
  have s4' : ∀ b, G1 b = none → H1 b ≠ none → G2 b = none := fun b w1 w2 => by
    by_cases hb : Alive s1 as1 b
    · exact hG2 b hb
    · rw [hG3 b hb]
      exact q4 b (lend_no w1 hb) w2
  have c2 := c1.call q1 s1' s2' s4'
  have x2 : Ext as1 as1 G1 G2 := ⟨List.prefix_refl _, s1'⟩
  -- a tuple is no owned cell
  have tups : ∀ a vs, Rd G' a (.tup vs) → Rd G2 a (.tup vs) := fun b ws hb => by
    have nb : ¬ Alive s1 as1 b := fun z => by
      have w0 := ga z
      obtain ⟨j, kd, es, hj, hcl⟩ := z
      obtain ⟨b', us, g1, g2, g3⟩ := c1.cells j _ _ hcl
      rw [hj] at g1
      cases g1
      obtain ⟨o, ho⟩ := g2.some
      have hG' : G' b = some o := q2 b o (by rw [lend_yes w0 ⟨j, kd, es, hj, hcl⟩]; exact ho)
      have g2' : CellAt G' b us kd := g2.keep fun u q => by rw [ho] at q; cases q; exact hG'
      rcases hb with hb | ⟨oo, hb⟩
      · cases kd with
        | tup => exact g2'
        | lst => have : G' b = some (.lst us) := g2'; rw [hb] at this; cases this
        | dct ks => obtain ⟨_, _, _, this⟩ := g2'; rw [hb] at this; cases this
        | ins C fs => obtain ⟨_, _, this⟩ := g2'; rw [hb] at this; cases this
      · cases kd with
        | tup => exact g2'
        | lst => have : G' b = some (.lst us) := g2'; rw [hb] at this; cases this
        | dct ks => obtain ⟨_, _, _, this⟩ := g2'; rw [hb] at this; cases this
        | ins C fs => obtain ⟨_, _, this⟩ := g2'; rw [hb] at this; cases this
    rcases hb with hb | ⟨oo, hb⟩
    · exact .inl (by rw [hG3 b nb]; exact hb)
    · exact .inr ⟨oo, by rw [hG3 b nb]; exact hb⟩
  cases r with
  | dat y => exact kk v as1 G2 H' (.d y) s1 c2 (x1.trans x2) (imm_keep tups _ _ q5 hi) hr
  | new kd ds' =>
    obtain ⟨b, ws, rfl, w1, w2, w3, w4⟩ := q5
    have gb : G2 b = none := by
      by_cases hb : Alive s1 as1 b
      · exact hG2 b hb
      · rw [hG3 b hb]; exact w2
    have c3 := c2.grow (kd := kd) (es := ds'.map .d) gb (c1.notin w1) (c1.h0none w1) w3 (VEs.ofReps (imm_keeps tups _ _ w4 hi))
    exact kk _ _ G2 H' (.r s1.ce.length) _ c3 ((x1.trans x2).trans ⟨pre_snoc, Same.refl _⟩) ⟨b, by rw [← c1.len, List.getElem?_append_right (Nat.le_refl _)]; simp, rfl⟩ hr
end
end DL
namespace DL
open PySem PySem.Spec PyProof.Rows L2
variable {X : Cx} {F : Fr} {s : S}
/-! ### what is walked -/
def semI (X : Cx) (tg iter : Expr) : TI := fun σ H R => ∀ pins st, Inv X pins σ H st → wpAny (model X.prog X.w) X.A (eval iter X.env) (fun v s1 => wpAny (model X.prog X.w) X.A (pyIter v) (PIE X pins σ tg R) X.xe s1) X.xe st
theorem pi_sem (X : Cx) (tg iter : Expr) : PI X tg iter (semI X tg iter) := ⟨fun pins s σ H R I h => h pins s I⟩
theorem PI.sem {X : Cx} {tg iter : Expr} {t : TI} (h : PI X tg iter t) {σ : L2.St} {H : Hp} {R : It → Hp → Prop} (q : t σ H R) : semI X tg iter σ H R := fun pins s I => h.run pins s σ H R I q
/-- n turns, at the i-th a thing of it i -/
structure ItOk (X : Cx) (F : Fr) (J : It) (n : Nat) (it : Nat → E → Prop) (as : List Addr) (G : Hp) : Prop where
  stop : ∀ as' G' H' σ' s', Cz X F as' G' H' σ' s' → Same G G' → J.stop n H'
  go : ∀ i as' G' H' σ' s', i < n → Cz X F as' G' H' σ' s' → Same G G' → J.go i H'
  yld : ∀ i as' G' H' σ' s' x H2, i < n → Cz X F as' G' H' σ' s' → Same G G' → J.yld i H' x H2 → ∃ G2 e, Cz X F as' G2 H2 σ' s' ∧ (Same G' G2 ∧ ∀ b, H' b ≠ none → G' b = none → G2 b = none) ∧ VE X.K G2 as' x e ∧ it i e
  keep : ∀ i as' G' H' σ' s' x H2, i < n → Cz X F as' G' H' σ' s' → Same G G' → J.yld i H' x H2 → Same H' H2
def JI (X : Cx) (F : Fr) (tg iter : Expr) (s : S) (Θ : Nat → (Nat → E → Prop) → S → Prop) : Prop := ∀ as G H σ (R : It → Hp → Prop), Cz X F as G H σ s →
  (∀ J as1 G1 H1 s1 n it, Cz X F as1 G1 H1 σ s1 → Ext as as1 G G1 → ItOk X F J n it as1 G1 → Θ n it s1 → R J H1) → semI X tg iter σ H R
/-- a whole frozen list, by its items -/
def itL (ds : List D) : Nat → E → Prop := fun i e => ∃ d, ds[i]? = some d ∧ e = .d d
section
variable {e a b c tg iter : Expr} {es rest : List Expr} {body : List Stmt} {P : Po} {pos p : Pos} {x : Str} {k B : Nat} {Θ : Nat → (Nat → E → Prop) → S → Prop}
theorem ji_lst (h : JE X F iter s fun e s1 => ∃ ds, e = .d (.nd .lst ds) ∧ Θ ds.length (itL ds) s1) : JI X F tg iter s Θ := fun as G H σ R c k =>
  PI.sem (pi_list (pe_sem X iter)) (h as G H σ _ c fun v as1 G1 H1 e1 s1 c1 x1 ve ⟨ds, e2, q⟩ => by
    subst e2
    cases ve with
    | @nd a vs _ _ n r =>
      have n : SqL X.K G1 a vs := n
      refine ⟨a, rfl, ⟨vs, (show NodeAt X.K G1 a vs .lst from n).mono c1.sub⟩, k (Itl X.K a) as1 G1 H1 s1 ds.length (itL ds) c1 x1 ?_ q⟩
      have at_ : ∀ {as' : List Addr} {G' H' : Hp} {σ' : L2.St} {s' : S}, Cz X F as' G' H' σ' s' → Same G1 G' → SqL X.K H' a vs := fun c' x => ((show NodeAt X.K G1 a vs .lst from n).mono x).mono c'.sub
      refine ⟨fun as' G' H' σ' s' c' x => ⟨vs, at_ c' x, by rw [r.length]; exact Nat.le_refl _⟩, fun i as' G' H' σ' s' hi c' x => ⟨vs, vs[i]'(by rw [r.length]; exact hi), at_ c' x, List.getElem?_eq_getElem _⟩, fun i as' G' H' σ' s' y H2 hi c' x q => ?_, fun i as' G' H' σ' s' y H2 hi c' x q => (by obtain ⟨rfl, _⟩ := q; exact Same.refl _)⟩
      obtain ⟨rfl, q⟩ := q
      obtain ⟨d, h1, h2⟩ := r.get' (q vs (at_ c' x))
      exact ⟨G', .d d, c', ⟨Same.refl _, fun _ _ h => h⟩, Rep.mono x h2, d, h1, rfl⟩)
theorem ji_tup (h : JE X F iter s fun e s1 => ∃ ds, e = .d (.nd .tup ds) ∧ Θ ds.length (itL ds) s1) : JI X F tg iter s Θ := fun as G H σ R c k =>
  PI.sem (pi_tup (pe_sem X iter)) (h as G H σ _ c fun v as1 G1 H1 e1 s1 c1 x1 ve ⟨ds, e2, q⟩ => by
    subst e2
    cases ve with
    | @nd a vs _ _ n r =>
      have n : SqT X.K G1 a vs := n
      refine ⟨a, rfl, ⟨vs, (show NodeAt X.K G1 a vs .tup from n).mono c1.sub⟩, k (Itt X.K a) as1 G1 H1 s1 ds.length (itL ds) c1 x1 ?_ q⟩
      have at_ : ∀ {as' : List Addr} {G' H' : Hp} {σ' : L2.St} {s' : S}, Cz X F as' G' H' σ' s' → Same G1 G' → SqT X.K H' a vs := fun c' x => ((show NodeAt X.K G1 a vs .tup from n).mono x).mono c'.sub
      refine ⟨fun as' G' H' σ' s' c' x => ⟨vs, at_ c' x, by rw [r.length]; exact Nat.le_refl _⟩, fun i as' G' H' σ' s' hi c' x => ⟨vs, vs[i]'(by rw [r.length]; exact hi), at_ c' x, List.getElem?_eq_getElem _⟩, fun i as' G' H' σ' s' y H2 hi c' x q => ?_, fun i as' G' H' σ' s' y H2 hi c' x q => (by obtain ⟨rfl, _⟩ := q; exact Same.refl _)⟩
      obtain ⟨rfl, q⟩ := q
      obtain ⟨d, h1, h2⟩ := r.get' (q vs (at_ c' x))
      exact ⟨G', .d d, c', ⟨Same.refl _, fun _ _ h => h⟩, Rep.mono x h2, d, h1, rfl⟩)
/-- a frozen dict's keys -/
def kD : Key → D
  | .inl i => .int i
  | .inr x => .str x
theorem rep_kD {K : PySem.W.Frag} {G : Hp} : ∀ (k : Key), Rep K G (kV k) (kD k)
  | .inl i => .int i
  | .inr x => .str x
theorem ji_keys (h : JE X F iter s fun e s1 => ∃ ks ds, e = .d (.nd (.dct ks) ds) ∧ Θ ks.length (itL (ks.map kD)) s1) : JI X F tg iter s Θ := fun as G H σ R c k =>
  PI.sem (pi_keys (pe_sem X iter)) (h as G H σ _ c fun v as1 G1 H1 e1 s1 c1 x1 ve ⟨ks, ds, e2, q⟩ => by
    subst e2
    cases ve with
    | @nd a vs _ _ n r =>
      obtain ⟨n1, n2, od, n3⟩ := n
      have hl : (ks.zip vs).length = ks.length := by rw [List.length_zip, n1, Nat.min_self]
      refine ⟨a, od, rfl, .inl ⟨ks.zip vs, c1.sub _ _ n3, k (Itk a od (ks.zip vs)) as1 G1 H1 s1 ks.length _ c1 x1 ?_ q⟩⟩
      have at_ : ∀ {as' : List Addr} {G' H' : Hp} {σ' : L2.St} {s' : S}, Cz X F as' G' H' σ' s' → Same G1 G' → H' a = some (.frz od (.dK (ks.zip vs))) := fun c' x => c'.sub _ _ (x _ _ n3)
      refine ⟨fun as' G' H' σ' s' c' x => ⟨at_ c' x, by rw [hl]; exact Nat.le_refl _⟩, fun i as' G' H' σ' s' hi c' x => ⟨at_ c' x, by rw [hl]; exact hi⟩, fun i as' G' H' σ' s' y H2 hi c' x q => ?_, fun i as' G' H' σ' s' y H2 hi c' x q => (by obtain ⟨rfl, _⟩ := q; exact Same.refl _)⟩
      obtain ⟨rfl, kk, v, q1, rfl⟩ := q
      refine ⟨G', .d (kD kk), c', ⟨Same.refl _, fun _ _ h => h⟩, rep_kD kk, kD kk, ?_, rfl⟩
      rw [List.getElem?_map, (List.getElem?_zip_eq_some.mp q1).1]
      rfl)
/-- range -/
def itR (lo : Int) : Nat → E → Prop := fun i e => e = .d (.int (lo + i))
theorem itok_range {lo : Int} {n : Nat} {as : List Addr} {G : Hp} : ItOk X F (Itr lo n) n (itR lo) as G :=
  ⟨fun _ _ _ _ _ _ _ => Nat.le_refl _, fun i _ _ _ _ _ hi _ _ => hi, fun i as' G' H' σ' s' x H2 hi c x1 ⟨q1, q2⟩ => ⟨G', .d (.int (lo + i)), by rw [q1]; exact c, ⟨Same.refl _, fun _ _ h => h⟩, by rw [q2]; exact .int _, rfl⟩, fun i as' G' H' σ' s' x H2 hi c x1 ⟨q1, q2⟩ => by rw [q1]; exact Same.refl _⟩
theorem ji_range1 (g : GlB X "range") (h : JE X F a s fun e s1 => ∃ j : Int, e = .d (.int j) ∧ (-(2 ^ 62) ≤ j ∧ j < 2 ^ 62) ∧ Θ j.toNat (itR 0) s1) (ns : NoStar a := by intro _ _; rfl) : JI X F tg (.Call (.Name "range" p) [a] [] pos) s Θ := fun as G H σ R c k =>
  PI.sem (pi_range1 g.gl g.mg (pa_cons (pe_sem X a) pa_nil (ns _ _)) (hs := by rw [ns]; rfl)) (h as G H σ _ c fun v as1 G1 H1 e1 s1 c1 x1 ve ⟨j, e2, ⟨h1, h2⟩, q⟩ => by
    subst e2
    cases ve
    exact ⟨j, rfl, h1, h2, k _ as1 G1 H1 s1 _ _ c1 x1 itok_range q⟩)
theorem ji_range2 (g : GlB X "range") (h : JE X F a s fun e s1 => JE X F b s1 fun e2 s2 => ∃ i j : Int, e = .d (.int i) ∧ e2 = .d (.int j) ∧ (-(2 ^ 62) ≤ i ∧ i < 2 ^ 62 ∧ -(2 ^ 62) ≤ j ∧ j < 2 ^ 62) ∧ Θ (j - i).toNat (itR i) s2) (ns : NoStar a := by intro _ _; rfl) (ns2 : NoStar b := by intro _ _; rfl) :
    JI X F tg (.Call (.Name "range" p) [a, b] [] pos) s Θ := fun as G H σ R c k =>
  PI.sem (pi_range2 g.gl g.mg (pa_cons (pe_sem X a) (pa_cons (pe_sem X b) pa_nil (ns2 _ _)) (ns _ _)) (hs := by rw [ns, ns2]; rfl) (hs2 := by rw [ns2]; rfl)) (h as G H σ _ c fun v as1 G1 H1 e1 s1 c1 x1 ve h1 => h1 as1 G1 H1 σ _ c1 fun v2 as2 G2 H2 e2 s2 c2 x2 ve2 ⟨i, j, q1, q2, ⟨b1, b2, b3, b4⟩, q⟩ => by
    subst q1 q2
    cases ve
    cases ve2
    exact ⟨i, j, rfl, ⟨b1, b2, b3, b4⟩, k _ as2 G2 H2 s2 _ _ c2 (x1.trans x2) itok_range q⟩)
/-- a text's signs -/
def itS (z : Str) : Nat → E → Prop := fun i e => ∃ cp, z.cps[i]? = some cp ∧ e = .d (.str ⟨#[cp]⟩)
theorem ji_str (h : JE X F iter s fun e s1 => ∃ z, e = .d (.str z) ∧ Θ z.cps.size (itS z) s1) : JI X F tg iter s Θ := fun as G H σ R c k =>
  PI.sem (pi_str (pe_sem X iter)) (h as G H σ _ c fun v as1 G1 H1 e1 s1 c1 x1 ve ⟨z, e2, q⟩ => by
    subst e2
    cases ve
    exact ⟨z, rfl, k _ as1 G1 H1 s1 _ _ c1 x1 ⟨fun _ _ _ _ _ _ _ => Nat.le_refl _, fun i _ _ _ _ _ hi _ _ => hi, fun i as' G' H' σ' s' x H2 hi c x1 ⟨q1, cp, q2, q3⟩ => ⟨G', .d (.str ⟨#[cp]⟩), by rw [q1]; exact c, ⟨Same.refl _, fun _ _ h => h⟩, by rw [q3]; exact .str _, cp, q2, rfl⟩, fun i as' G' H' σ' s' x H2 hi c x1 ⟨q1, cp, q2, q3⟩ => by rw [q1]; exact Same.refl _⟩ q⟩)
/-! ### for -/
theorem for_any {J : It} {n : Nat} {g : TG} {tb : TS} {D : Ends} {σ : L2.St} {H : Hp} (Pv : Nat → L2.St → Hp → Prop) (h0 : Pv 0 σ H) (hst : ∀ σ H, Pv n σ H → J.stop n H) (hgo : ∀ i σ H, i < n → Pv i σ H → J.go i H)
    (hs : ∀ i σ H, i < n → Pv i σ H → ∀ x H', J.yld i H x H' → g x σ H' fun σ2 H2 => tb { D with nx := Pv (i + 1), ct := Pv (i + 1), bk := D.nx } σ2 H2) (hd : ∀ σ H, Pv n σ H → D.nx σ H) :
    ∃ W : Nat → Nat → L2.St → Hp → Prop, (∃ m, W 0 m σ H) ∧ ∀ i m σ H, W i m σ H →
      (J.stop i H ∧ D.nx σ H) ∨ (J.go i H ∧ ∃ N : L2.St → Hp → Prop, (∀ σ' H', N σ' H' → ∃ m', m' < m ∧ W (i + 1) m' σ' H') ∧ ∀ x H', J.yld i H x H' → g x σ H' fun σ2 H2 => tb { D with nx := N, ct := N, bk := D.nx } σ2 H2) := by
  refine ⟨fun i m σ H => m = n - i ∧ i ≤ n ∧ Pv i σ H, ⟨n, by simp, Nat.zero_le _, h0⟩, ?_⟩
  rintro i m σ H ⟨rfl, hi, p⟩
  by_cases hlt : i < n
  · exact .inr ⟨hgo i σ H hlt p, Pv (i + 1), fun σ' H' p' => ⟨n - (i + 1), by omega, rfl, hlt, p'⟩, hs i σ H hlt p⟩
  · have e : i = n := by omega
    subst e
    exact .inl ⟨hst σ H p, hd σ H p⟩
/-- one turn: the target is stored, the body runs -/
def Turn1 (X : Cx) (F : Fr) (tg : Expr) (body : List Stmt) (P : Po) (Nx : S → Prop) (v : E) (s : S) : Prop :=
  JG X F tg v s fun s2 => JSs X F body s2 { nx := Nx, ct := Nx, bk := P.nx, rt := P.rt }
theorem js_for {B : Nat} (bx : Bx X B) (In : Nat → S → Prop) (h : JI X F tg iter s fun n it s1 => In 0 s1 ∧ (∀ i v s', i < n → it i v → In i s' → Turn1 X F tg body P (In (i + 1)) v s') ∧ ∀ s', In n s' → P.nx s')
    (hs : ∀ x, foldedSetIterable iter X.env x = pure x := by intro _; rfl) : JS X F (.For tg iter body [] pos) s P := fun as G H σ D c k =>
  PS.sem (ps_for bx.po bx.calm (pi_sem X tg iter) (pg_sem X tg) (pss_sem X body) hs) (h as G H σ _ c fun J as1 G1 H1 s1 n it c1 x1 ok ⟨h0, ht, hd⟩ => by
    refine for_any (fun i σ' H' => ∃ as' G' s', Cz X F as' G' H' σ' s' ∧ Same G1 G' ∧ In i s') ⟨as1, G1, s1, c1, Same.refl _, h0⟩ (fun σ' H' ⟨as', G', s', c', x', _⟩ => ok.stop as' G' H' σ' s' c' x') (fun i σ' H' hi ⟨as', G', s', c', x', _⟩ => ok.go i as' G' H' σ' s' hi c' x')
      (fun i σ' H' hi ⟨as', G', s', c', x', q⟩ v H2 y => ?_) fun σ' H' ⟨as', G', s', c', x', q⟩ => k.nx as' G' H' σ' s' c' (x1.sub.trans x') (hd s' q)
    obtain ⟨G2, e, c2, ⟨x2, _⟩, ve, hv⟩ := ok.yld i as' G' H' σ' s' v H2 hi c' x' y
    have x3 : Same G1 G2 := x'.trans x2
    refine ht i e s' hi hv q as' G2 H2 σ' v _ c2 ve fun as3 G3 H3 σ3 s3 c3 x4 q3 => ?_
    refine q3 as3 G3 H3 σ3 _ c3 ⟨fun as5 G5 H5 σ5 s5 c5 x5 t => ⟨as5, G5, s5, c5, (x3.trans x4.sub).trans x5, t⟩, fun v as5 G5 H5 σ5 e5 s5 c5 x5 ve t => k.rt v as5 G5 H5 σ5 e5 s5 c5 (x1.sub.trans ((x3.trans x4.sub).trans x5)) ve t, fun as5 G5 H5 σ5 s5 c5 x5 t => k.nx as5 G5 H5 σ5 s5 c5 (x1.sub.trans ((x3.trans x4.sub).trans x5)) t,
      fun as5 G5 H5 σ5 s5 c5 x5 t => ⟨as5, G5, s5, c5, (x3.trans x4.sub).trans x5, t⟩⟩)
/-- while -/
theorem js_while {B : Nat} (bx : Bx X B) (W : S → Prop) (μ : S → Nat) (h0 : W s) (h : ∀ s, W s → JT X F c s fun b s2 => if b = true then JSs X F body s2 { nx := fun s3 => W s3 ∧ μ s3 < μ s, ct := fun s3 => W s3 ∧ μ s3 < μ s, bk := P.nx, rt := P.rt } else P.nx s2) :
    JS X F (.While c body [] pos) s P := fun as G H σ D cz k =>
  PS.sem (ps_while bx.po (pt_sem X c) (pss_sem X body)) (by
    refine ⟨fun m σ' H' => ∃ as' G' s', Cz X F as' G' H' σ' s' ∧ Same G G' ∧ W s' ∧ m = μ s', ⟨_, as, G, s, cz, Same.refl _, h0, rfl⟩, ?_⟩
    rintro m σ' H' ⟨as', G', s', c', x', w, rfl⟩
    refine h s' w as' G' H' σ' _ c' fun b as2 G2 H2 s2 c2 x2 q => ?_
    cases b with
    | true =>
      simp only [if_true] at q ⊢
      refine ⟨fun σ3 H3 => ∃ as3 G3 s3, Cz X F as3 G3 H3 σ3 s3 ∧ Same G G3 ∧ W s3 ∧ μ s3 < μ s', fun σ3 H3 ⟨as3, G3, s3, c3, x3, w3, l3⟩ => ⟨_, l3, as3, G3, s3, c3, x3, w3, rfl⟩, ?_⟩
      exact q as2 G2 H2 σ' _ c2 ⟨fun as5 G5 H5 σ5 s5 c5 x5 t => ⟨as5, G5, s5, c5, (x'.trans x2.sub).trans x5, t⟩, fun v as5 G5 H5 σ5 e5 s5 c5 x5 ve t => k.rt v as5 G5 H5 σ5 e5 s5 c5 ((x'.trans x2.sub).trans x5) ve t, fun as5 G5 H5 σ5 s5 c5 x5 t => k.nx as5 G5 H5 σ5 s5 c5 ((x'.trans x2.sub).trans x5) t,
        fun as5 G5 H5 σ5 s5 c5 x5 t => ⟨as5, G5, s5, c5, (x'.trans x2.sub).trans x5, t⟩⟩
    | false => exact k.nx as2 G2 H2 σ' s2 c2 (x'.trans x2.sub) q)
/-- freezing a cell between two statements -/
theorem jss_frz {sts : List Stmt} {k : Nat} {kd : Kd} {es : List E} {ds : List D} (h1 : nth s.ce k = some (.nd kd es)) (h2 : dsOf es = some ds) (h3 : ∀ C fs, kd ≠ .ins C fs) (h4 : s.ar ≤ k) (h : JSs X F sts (s.fz k (.nd kd ds)) P) : JSs X F sts s P := fun as G H σ D c kk => by
  rw [dsOf_eq h2] at h1
  obtain ⟨a, G2, _, x2, c2, _⟩ := c.fz h1 h3 h4
  exact h as G2 H σ D c2 (kk.ext x2)
/-- forgetting: what follows is shown of less -/
def E.ltB (n : Nat) : Option E → Bool
  | some (.r k) => decide (k < n)
  | _ => true
def Cell.ltB (n : Nat) : Cell → Bool
  | .gone => true
  | .nd _ es => es.all (E.lt n)
theorem Cz.weak' {as : List Addr} {G H : Hp} {σ : L2.St} {s' : S} (c : Cz X F as G H σ s) (w : Wk s s') (h1 : s'.sl.all (E.ltB s'.ce.length) = true) (h2 : s'.ce.all (Cell.ltB s'.ce.length) = true) : Cz X F (as.take s'.ce.length) G H σ s' := by
  refine c.weak w (fun i e he => ?_) fun k kd es hk e he => ?_
  · have := List.all_eq_true.mp h1 _ (List.mem_of_getElem? he)
    cases e with
    | d x => rfl
    | r k => exact this
  · have := List.all_eq_true.mp h2 _ (List.mem_of_getElem? hk)
    exact List.all_eq_true.mp this e he
theorem jss_weak {sts : List Stmt} {s' : S} (w : Wk s s') (h1 : s'.sl.all (E.ltB s'.ce.length) = true) (h2 : s'.ce.all (Cell.ltB s'.ce.length) = true) (h : JSs X F sts s' P) : JSs X F sts s P := fun as G H σ D c k =>
  h _ G H σ D (c.weak' w h1 h2) (k.exs (Same.refl _))
/-- .. at the end of a block -/
theorem jss_end {s' : S} (w : Wk s s') (h1 : s'.sl.all (E.ltB s'.ce.length) = true) (h2 : s'.ce.all (Cell.ltB s'.ce.length) = true) (h : P.nx s') : JSs X F [] s P := jss_weak w h1 h2 (jss_nil h)
end
end DL
namespace DL
open PySem PySem.Spec PyProof.Rows L2
variable {X : Cx} {F : Fr} {s : S}
/-! ### comprehensions -/
structure IsBlk (X : Cx) (scope : Scope) (Y : Cx) : Prop where
  ex : ∃ (st : Shared) (H : Hp) (C : Addr) (cl : List (Str × Addr)) (fp : List Addr), Y = X.blk st H scope (compEnvC scope cl C X.env) fp
theorem IsBlk.K {scope : Scope} {Y : Cx} (h : IsBlk X scope Y) : Y.K = X.K := by obtain ⟨_, _, _, _, _, rfl⟩ := h.ex; rfl
theorem IsBlk.is {scope : Scope} {Y : Cx} {P : Program} {w : World} {K : PySem.W.Frag} {mg : Str → Option Value} {base : Heap} {N : List Str} {sc : Scope} {k : Nat} (h : IsBlk X scope Y) (hX : XIs X P w K mg base N sc k) : XIs Y P w K mg base N (relS scope sc) k := by
  obtain ⟨_, _, _, _, _, rfl⟩ := h.ex
  exact ⟨hX.eP, hX.eW, hX.eK, hX.eM, hX.eB, hX.eN, by rw [← hX.eS]; rfl, hX.calm, hX.nd, rfl, hX.room⟩
theorem cz_blk {scope : Scope} {Y : Cx} (h : IsBlk X scope Y) {as : List Addr} {G H : Hp} {σ : L2.St} {s : S} (c : Cz X F as G H σ s) : Cz Y F as G H σ s := by
  obtain ⟨_, _, _, _, _, rfl⟩ := h.ex
  exact ⟨c.sub, c.base, c.new, c.frame, c.len, c.pre, c.nd, c.own, c.fresh, c.there, c.cells, c.slots, c.slen, c.har⟩
theorem cz_ublk {scope : Scope} {Y : Cx} (h : IsBlk X scope Y) {as : List Addr} {G H : Hp} {σ : L2.St} {s : S} (c : Cz Y F as G H σ s) : Cz X F as G H σ s := by
  obtain ⟨_, _, _, _, _, rfl⟩ := h.ex
  exact ⟨c.sub, c.base, c.new, c.frame, c.len, c.pre, c.nd, c.own, c.fresh, c.there, c.cells, c.slots, c.slen, c.har⟩
def wipeN {α : Type} (l : List (Option α)) : List Nat → List (Option α)
  | [] => l
  | v :: vs => setN (wipeN l vs) v none
def S.wipe (s : S) (vs : List Nat) : S := ⟨wipeN s.sl vs, s.ce, s.ar⟩
theorem wipeN_len {α : Type} (l : List (Option α)) : ∀ vs, (wipeN l vs).length = l.length
  | [] => rfl
  | v :: vs => by unfold wipeN; rw [setN_eq, List.length_set, wipeN_len l vs]
theorem wipeN_some {α : Type} {l : List (Option α)} {i : Nat} {x : α} : ∀ {vs : List Nat}, (wipeN l vs)[i]? = some (some x) → l[i]? = some (some x) ∧ i ∉ vs
  | [], h => ⟨h, by simp⟩
  | v :: vs, h => by
    unfold wipeN at h
    rw [setN_eq] at h
    by_cases hi : v = i
    · subst hi
      by_cases hv : v < (wipeN l vs).length
      · rw [List.getElem?_set_self hv] at h; cases h
      · rw [List.getElem?_eq_none (by simpa using hv)] at h; cases h
    · rw [List.getElem?_set_ne hi] at h
      obtain ⟨h1, h2⟩ := wipeN_some h
      exact ⟨h1, by simp only [List.mem_cons, not_or]; exact ⟨fun e => hi e.symm, h2⟩⟩
theorem wipe_out' {σ : L2.St} {i : Nat} {vs : List Nat} (h : i ∉ vs) : (wipe σ vs)[i]? = σ[i]? := by
  induction vs with
  | nil => rfl
  | cons v vs ih =>
    unfold wipe
    rw [List.getElem?_set_ne (fun z => h (by rw [z]; exact List.mem_cons_self)), ih fun z => h (List.mem_cons_of_mem _ z)]
theorem wipe_in {σ : L2.St} {i : Nat} {vs : List Nat} (h : i ∈ vs) (hl : i < σ.length) : (wipe σ vs)[i]? = some none := by
  induction vs with
  | nil => cases h
  | cons v vs ih =>
    unfold wipe
    by_cases hv : v = i
    · subst hv
      rw [List.getElem?_set_self (by rw [wipe_length]; exact hl)]
    · rw [List.getElem?_set_ne hv]
      exact ih ((List.mem_cons.mp h).resolve_left fun z => hv z.symm)
theorem wipe_same {σ τ : L2.St} {vs : List Nat} (hl : σ.length = τ.length) (h : ∀ i, i ∉ vs → σ[i]? = τ[i]?) : wipe σ vs = wipe τ vs := by
  apply List.ext_getElem?
  intro i
  by_cases hi : i ∈ vs
  · by_cases hl1 : i < σ.length
    · rw [wipe_in hi hl1, wipe_in hi (hl ▸ hl1)]
    · rw [List.getElem?_eq_none (by rw [wipe_length]; omega), List.getElem?_eq_none (by rw [wipe_length]; omega)]
  · rw [wipe_out' hi, wipe_out' hi, h i hi]
theorem Cz.wipe {as : List Addr} {G H : Hp} {σ : L2.St} (c : Cz X F as G H σ s) (vs : List Nat) : Cz X F as G H (wipe σ vs) (s.wipe vs) := by
  refine ⟨c.sub, c.base, c.new, c.frame, c.len, c.pre, c.nd, c.own, c.fresh, c.there, c.cells, fun i e he => ?_, ?_, c.har⟩
  · obtain ⟨h1, h2⟩ := wipeN_some (show (wipeN s.sl vs)[i]? = _ from he)
    obtain ⟨v, w1, w2⟩ := c.slots i e h1
    exact ⟨v, by rw [wipe_out' h2]; exact w1, w2⟩
  · show (wipeN s.sl vs).length = _
    rw [wipeN_len, wipe_length]; exact c.slen
/-- the slots of an elder state -/
theorem Cz.back {as as' : List Addr} {G G' H H' : Hp} {σ τ : L2.St} {s' : S} (c : Cz X F as G H σ s) (c' : Cz X F as' G' H' τ s') (x : Ext as as' G G') : Cz X F as' G' H' σ ⟨s.sl, s'.ce, s.ar⟩ :=
  ⟨c'.sub, c'.base, c'.new, c'.frame, c'.len, c'.pre, c'.nd, c'.own, c'.fresh, c'.there, c'.cells, fun i e he => by
    obtain ⟨v, w1, w2⟩ := c.slots i e he
    exact ⟨v, w1, x.ve w2⟩, c.slen, c.har⟩
/-- a clause's tests -/
def JTs (X : Cx) (F : Fr) (ifs : List Expr) (s : S) (Ψ : Bool → S → Prop) : Prop := match ifs with
  | [] => Ψ true s
  | [c] => JT X F c s Ψ
  | _ => False
theorem jts_run {ifs : List Expr} {Ψ : Bool → S → Prop} {Q : Bool → Hp → Prop} {as : List Addr} {G H : Hp} {σ : L2.St} (h : JTs X F ifs s Ψ) (c : Cz X F as G H σ s) (k : ∀ b as' G' H' s', Cz X F as' G' H' σ s' → Ext as as' G G' → Ψ b s' → Q b H') :
    ∀ pins st, Inv X pins σ H st → wpAny (model X.prog X.w) X.A (forIn ifs true fun c r => if r = true then do let ok ← isTrue c X.env (eval c X.env); pure (ForInStep.yield ok) else pure (ForInStep.yield r)) (TP X pins σ Q) X.xe st := by
  match ifs, h with
  | [], h => exact fun pins st I => pts_nil.run pins st σ H Q I (k true as G H s c (Ext.refl _ _) h)
  | [e], h => exact fun pins st I => (pts_one (pt_sem X e)).run pins st σ H Q I (h as G H σ Q c k)
  | _ :: _ :: _, h => exact h.elim
section
variable {elt iter : Expr} {ifs : List Expr} {scope : Scope} {own : List (Str × Nat)} {pos p : Pos} {x : Str} {j B : Nat} {Φ : E → S → Prop}
/-- the block's tests and element, in every block -/
def ttB (X : Cx) (scope : Scope) (ifs : List Expr) : TT := fun σ H Q => ∀ Y, IsBlk X scope Y → ∀ pins st, Inv Y pins σ H st → wpAny (model Y.prog Y.w) Y.A (forIn ifs true fun c r => if r = true then do let ok ← isTrue c Y.env (eval c Y.env); pure (ForInStep.yield ok) else pure (ForInStep.yield r)) (TP Y pins σ Q) Y.xe st
def teB (X : Cx) (scope : Scope) (elt : Expr) : TE := fun σ H Q => ∀ Y, IsBlk X scope Y → semE Y elt σ H Q
theorem pts_B {X : Cx} {scope : Scope} {ifs : List Expr} (st : Shared) (H : Hp) (C : Addr) (cl : List (Str × Addr)) (fp : List Addr) : PTs (X.blk st H scope (compEnvC scope cl C X.env) fp) ifs (ttB X scope ifs) := ⟨fun pins s σ H Q I h => h _ ⟨st, _, C, cl, fp, rfl⟩ pins s I⟩
theorem pe_B {X : Cx} {scope : Scope} {elt : Expr} (st : Shared) (H : Hp) (C : Addr) (cl : List (Str × Addr)) (fp : List Addr) : PE (X.blk st H scope (compEnvC scope cl C X.env) fp) elt (teB X scope elt) := ⟨fun pins s σ H Q I h => h _ ⟨st, _, C, cl, fp, rfl⟩ pins s I⟩
theorem lc_read (hj : j ∈ own.map (·.2))
    (h : JI X F (.Name x p) iter s fun n it s1 => ∃ In : Nat → List E → S → Prop, In 0 [] ((s1.wipe (own.map (·.2))).push .lst []) ∧
      (∀ i v acc s', i < n → it i v → In i acc s' → nth s'.ce s1.ce.length = some (.nd .lst acc) ∧ ∀ Y, IsBlk X scope Y → JTs Y F ifs (s'.set j v) fun b s2 =>
        if b = true then ∀ Y2, IsBlk X scope Y2 → JE Y2 F elt s2 fun y s3 => nth s3.ce s1.ce.length = some (.nd .lst acc) ∧ acc.length < sizeLine ∧ In (i + 1) (acc ++ [y]) ((s3.put s1.ce.length .lst (acc ++ [y])).wipe (own.map (·.2)))
        else In (i + 1) acc (s2.wipe (own.map (·.2)))) ∧
      ∀ acc s', In n acc s' → Φ (.r s1.ce.length) ⟨s1.sl, s'.ce, s1.ar⟩) :
    ∀ as G H σ (Q : VK), Cz X F as G H σ s → (∀ v as' G' H' e' s', Cz X F as' G' H' σ s' → Ext as as' G G' → VE X.K G' as' v e' → Φ e' s' → Q v H') → tLc (semI X (.Name x p) iter) (gName j) (ttB X scope ifs) (teB X scope elt) (own.map (·.2)) σ H Q := by
  refine fun as G H σ Q c k => h as G H σ _ c fun J as1 G1 H1 s1 n it c1 x1 okJ ⟨In, h0, ht, hd⟩ => ?_
  intro D hD
  -- the state of a turn
  have c1' := (c1.wipe (own.map (·.2))).addO (kd := .lst) (o := .lst []) (vs := []) (es := []) hD upd_same .nil
  have hk : s1.ce.length = as1.length := c1.len.symm
  refine ⟨fun i m H' => m = n - i ∧ i ≤ n ∧ ∃ as' G' s' acc, Cz X F as' G' H' (wipe σ (own.map (·.2))) s' ∧ as1 ++ [D] <+: as' ∧ Same G1 G' ∧ In i acc s', ⟨n, by simp, Nat.zero_le _, _, _, _, [], c1', List.prefix_refl _, Same.refl _, h0⟩, ?_⟩
  rintro i m H' ⟨rfl, hi, as', G', s', acc, c', pr, sg, q⟩
  have prD : as'[s1.ce.length]? = some D := pre_get pr (by rw [hk, List.getElem?_append_right (Nat.le_refl _)]; simp)
  by_cases hlt : i < n
  · refine .inr ⟨okJ.go i as' G' H' _ _ hlt c' sg, fun H2 => ∃ as' G' s' acc, Cz X F as' G' H2 (wipe σ (own.map (·.2))) s' ∧ as1 ++ [D] <+: as' ∧ Same G1 G' ∧ In (i + 1) acc s', fun H2 ⟨as2, G2, s2, acc2, c2, p2, g2, q2⟩ => ⟨n - (i + 1), by omega, rfl, hlt, as2, G2, s2, acc2, c2, p2, g2, q2⟩, fun v H2 y => ?_⟩
    obtain ⟨G2, e, c2, ⟨x2, _⟩, ve, hv⟩ := okJ.yld i as' G' H' _ _ v H2 hlt c' sg y
    obtain ⟨t1, t2⟩ := ht i e acc s' hlt hv q
    have c3 := c2.set (i := j) ve
    have ws : wipe ((wipe σ (own.map (·.2))).set j (some v)) (own.map (·.2)) = wipe σ (own.map (·.2)) := wipe_same (by rw [List.length_set, wipe_length]) fun l hl => by
      rw [List.getElem?_set_ne (fun z => hl (by rw [← z]; exact hj)), wipe_out' hl]
    refine ⟨ws, fun Y hY pins st I => jts_run (t2 Y hY) (cz_blk hY c3) (fun b as4 G4 H4 s4 c4 x4 q4 => ?_) pins st I⟩
    cases b with
    | true =>
      simp only [if_true] at q4 ⊢
      refine fun Y2 hY2 => q4 Y2 hY2 as4 G4 H4 _ _ (cz_blk hY2 (cz_ublk hY c4)) fun y as5 G5 H5 y' s5 c5 x5 ve5 ⟨w1, w2, w3⟩ => ?_
      have c5 := cz_ublk hY2 c5
      rw [hY2.K] at ve5
      have p5 : as1 ++ [D] <+: as5 := (pr.trans x4.pre).trans x5.pre
      have prD5 : as5[s1.ce.length]? = some D := pre_get p5 (by rw [hk, List.getElem?_append_right (Nat.le_refl _)]; simp)
      rw [nth_eq] at w1
      obtain ⟨b, ws5, y1, y2, y3⟩ := c5.cells _ _ _ w1
      rw [prD5] at y1
      cases y1
      have y2' : H5 D = some (.lst ws5) := y2
      have hl := Paired.length y3
      refine ⟨ws5, y2', by rw [hl]; exact w2, ?_⟩
      have c6 := (c5.put (kd := .lst) (es := acc ++ [y']) (o := .lst (ws5 ++ [y])) w1 prD5 upd_same (y3.snoc ve5)).wipe (own.map (·.2))
      rw [ws] at c6
      exact ⟨as5, G5, _, _, c6, p5, ((sg.trans x2).trans x4.sub).trans x5.sub, w3⟩
    | false =>
      have c5 := (cz_ublk hY c4).wipe (own.map (·.2))
      rw [ws] at c5
      exact ⟨as4, G4, _, acc, c5, pr.trans x4.pre, (sg.trans x2).trans x4.sub, q4⟩
  · have e : i = n := by omega
    subst e
    refine .inl ⟨okJ.stop as' G' H' _ _ c' sg, ?_⟩
    have x : Ext as1 as' G1 G' := ⟨pre_snoc.trans pr, sg⟩
    exact k _ as' G' H' (.r s1.ce.length) _ (c1.back c' x) (x1.trans x) ⟨D, prD, rfl⟩ (hd acc s' q)
theorem pg_B (hn : ∀ Y, IsBlk X scope Y → NmW Y j x) (st : Shared) (H : Hp) (C : Addr) (cl : List (Str × Addr)) (fp : List Addr) : PG (X.blk st H scope (compEnvC scope cl C X.env) fp) (.Name x p) (gName j) := by
  have := hn _ ⟨st, H, C, cl, fp, rfl⟩
  exact pg_name this.nd this.nm this.loc this.hf
theorem je_lc (bx : Bx X B) (ok : BlkOk X.N X.env.scope scope own) (hj : j ∈ own.map (·.2)) (hn : ∀ Y, IsBlk X scope Y → NmW Y j x)
    (h : JI X F (.Name x p) iter s fun n it s1 => ∃ In : Nat → List E → S → Prop, In 0 [] ((s1.wipe (own.map (·.2))).push .lst []) ∧
      (∀ i v acc s', i < n → it i v → In i acc s' → nth s'.ce s1.ce.length = some (.nd .lst acc) ∧ ∀ Y, IsBlk X scope Y → JTs Y F ifs (s'.set j v) fun b s2 =>
        if b = true then ∀ Y2, IsBlk X scope Y2 → JE Y2 F elt s2 fun y s3 => nth s3.ce s1.ce.length = some (.nd .lst acc) ∧ acc.length < sizeLine ∧ In (i + 1) (acc ++ [y]) ((s3.put s1.ce.length .lst (acc ++ [y])).wipe (own.map (·.2)))
        else In (i + 1) acc (s2.wipe (own.map (·.2)))) ∧
      ∀ acc s', In n acc s' → Φ (.r s1.ce.length) ⟨s1.sl, s'.ce, s1.ar⟩)
    (hs : ∀ x, foldedSetIterable iter X.env x = pure x := by intro _; rfl) : JE X F (.ListComp elt [⟨.Name x p, iter, ifs, 0⟩] scope pos) s Φ :=
  je_of (pe_lc bx.calm bx.nd (pi_sem X _ iter) ok (pg_B hn) pts_B pe_B hs) (lc_read hj h)
/-- name = [..] on one line -/
theorem js_setLc {i : Nat} {y : Str} {py spos : Pos} {P : Po} (bx : Bx X B) (ny : NmW X i y) (ly : X.env.scope.names.lookup y = some .local) (hsw : swapsWith (.ListComp elt [⟨.Name x p, iter, ifs, 0⟩] scope pos) (some (.Name y py)) spos.line X.env = pure true)
    (ok : BlkOk X.N X.env.scope scope own) (hj : j ∈ own.map (·.2)) (hn : ∀ Y, IsBlk X scope Y → NmW Y j x)
    (h : JI X F (.Name x p) iter s fun n it s1 => ∃ In : Nat → List E → S → Prop, In 0 [] ((s1.wipe (own.map (·.2))).push .lst []) ∧
      (∀ i v acc s', i < n → it i v → In i acc s' → nth s'.ce s1.ce.length = some (.nd .lst acc) ∧ ∀ Y, IsBlk X scope Y → JTs Y F ifs (s'.set j v) fun b s2 =>
        if b = true then ∀ Y2, IsBlk X scope Y2 → JE Y2 F elt s2 fun y s3 => nth s3.ce s1.ce.length = some (.nd .lst acc) ∧ acc.length < sizeLine ∧ In (i + 1) (acc ++ [y]) ((s3.put s1.ce.length .lst (acc ++ [y])).wipe (own.map (·.2)))
        else In (i + 1) acc (s2.wipe (own.map (·.2)))) ∧
      ∀ acc s', In n acc s' → P.nx ((⟨s1.sl, s'.ce, s1.ar⟩ : S).set i (.r s1.ce.length)))
    (hs : ∀ x, foldedSetIterable iter X.env x = pure x := by intro _; rfl) : JS X F (.Assign [.Name y py] (.ListComp elt [⟨.Name x p, iter, ifs, 0⟩] scope pos) spos) s P := fun as G H σ D c k =>
  PS.sem (ps_setLc bx.calm bx.nd ny.nm ly hsw (pi_sem X _ iter) ok (pg_B hn) pts_B pe_B hs) (lc_read (Φ := fun e1 s1 => P.nx (s1.set i e1)) hj h as G H σ _ c fun v as1 G1 H1 e1 s1 c1 x1 ve q => k.nx as1 G1 H1 _ _ (c1.set ve) x1.sub q)
end
end DL
namespace DL
open PySem PySem.Spec PyProof.Rows L2
variable {X : Cx} {F : Fr} {s : S}
/-! ### blocks, statement by statement -/
section
variable {e a b c tg iter : Expr} {es rest : List Expr} {st : Stmt} {sts body : List Stmt} {P : Po} {pos p p' : Pos} {x : Str}
theorem jss_set {i : Nat} (n : NmW X i x) (h : JE X F e s fun e1 s1 => JSs X F sts (s1.set i e1) P) (hs : swapsWith e (some (.Name x p')) pos.line X.env = pure false := by rfl) : JSs X F (.Assign [.Name x p'] e pos :: sts) s P :=
  jss_cons (js_set n h hs)
theorem jss_ret (h : JE X F e s P.rt) : JSs X F (.Return (some e) pos :: sts) s P := jss_cons (js_ret h)
theorem jss_retN (h : P.rt (.d .non) s) : JSs X F (.Return none pos :: sts) s P := jss_cons (js_retN h)
theorem jss_break (h : P.bk s) : JSs X F (.Break pos :: sts) s P := jss_cons (js_break h)
theorem jss_cont (h : P.ct s) : JSs X F (.Continue pos :: sts) s P := jss_cons (js_cont h)
theorem jss_expr (h : JE X F e s fun _ s1 => JSs X F sts s1 P) (hs : swapsWith e none pos.line X.env = pure false := by rfl) : JSs X F (.Expr e pos :: sts) s P := jss_cons (js_expr h hs)
theorem jss_doc {z : Str} {j : Nat} (h : JSs X F sts s P) : JSs X F (.Expr (.Constant (.str z) j p) pos :: sts) s P := jss_cons (js_doc h)
theorem jss_asg {tg : Expr} (h : JE X F e s fun e1 s1 => JG X F tg e1 s1 fun s2 => JSs X F sts s2 P) (hs : swapsWithSole [tg] e pos.line X.env = pure false := by rfl) (hw : swappedStores [tg] e X.env = pure none := by rfl)
    (h1 : (assignEach [tg] X.env).map (·.2) = [assign tg X.env] := by rfl) : JSs X F (.Assign [tg] e pos :: sts) s P := jss_cons (js_asg h hs hw h1)
/-- behind an if: both branches come to the rest -/
def Po.then (P : Po) (N : S → Prop) : Po := { P with nx := N }
theorem jss_if {t u : List Stmt} (h : JT X F c s fun k s1 => if k = true then JSs X F t s1 (P.then fun s1 => JSs X F sts s1 P) else JSs X F u s1 (P.then fun s1 => JSs X F sts s1 P)) : JSs X F (.If c t u pos :: sts) s P := jss_cons (js_if h)
/-- an if whose block leaves -/
theorem jss_nilT {N : S → Prop} (h : N s) : JSs X F [] s (P.then N) := jss_nil h
/-- both branches come to M, the rest is shown once -/
theorem jss_ifM {t u : List Stmt} (M : S → Prop) (h : JT X F c s fun k s1 => if k = true then JSs X F t s1 (P.then M) else JSs X F u s1 (P.then M)) (h2 : ∀ s1, M s1 → JSs X F sts s1 P) : JSs X F (.If c t u pos :: sts) s P :=
  jss_cons (js_if (fun as G H σ Q cz k => h as G H σ Q cz fun b as' G' H' s' c' x q => k b as' G' H' s' c' x (by
    cases b with
    | true => exact JSs.mono q (fun s m => h2 s m) (fun _ _ z => z) (fun _ z => z) (fun _ z => z)
    | false => exact JSs.mono q (fun s m => h2 s m) (fun _ _ z => z) (fun _ z => z) (fun _ z => z))))
/-- the last statement -/
theorem jss_if1 {t u : List Stmt} (h : JT X F c s fun k s1 => if k = true then JSs X F t s1 P else JSs X F u s1 P) : JSs X F (.If c t u pos :: []) s P :=
  jss_cons (js_if (fun as G H σ Q cz k => h as G H σ Q cz fun b as' G' H' s' c' x q => k b as' G' H' s' c' x (by
    cases b with
    | true => exact JSs.mono q (fun s m => jss_nil m) (fun _ _ z => z) (fun _ z => z) (fun _ z => z)
    | false => exact JSs.mono q (fun s m => jss_nil m) (fun _ _ z => z) (fun _ z => z) (fun _ z => z))))
/-- an if that returns -/
theorem jss_ifr {e : Expr} {p1 : Pos} (h : JT X F c s fun k s1 => if k = true then JE X F e s1 P.rt else JSs X F sts s1 P) : JSs X F (.If c [.Return (some e) p1] [] pos :: sts) s P :=
  jss_cons (js_if (fun as G H σ Q cz k => h as G H σ Q cz fun b as' G' H' s' c' x q => k b as' G' H' s' c' x (by
    cases b with
    | true => exact jss_ret (P := P.then fun s1 => JSs X F sts s1 P) q
    | false => exact jss_nilT (P := P) (N := fun s1 => JSs X F sts s1 P) q)))
theorem jss_ifbr {p1 : Pos} (h : JT X F c s fun k s1 => if k = true then P.bk s1 else JSs X F sts s1 P) : JSs X F (.If c [.Break p1] [] pos :: sts) s P :=
  jss_cons (js_if (fun as G H σ Q cz k => h as G H σ Q cz fun b as' G' H' s' c' x q => k b as' G' H' s' c' x (by
    cases b with
    | true => exact jss_break (P := P.then fun s1 => JSs X F sts s1 P) q
    | false => exact jss_nilT (P := P) (N := fun s1 => JSs X F sts s1 P) q)))
theorem jss_for {B : Nat} (bx : Bx X B) (In : Nat → S → Prop) (h : JI X F tg iter s fun n it s1 => In 0 s1 ∧ (∀ i v s', i < n → it i v → In i s' → JG X F tg v s' fun s2 => JSs X F body s2 { nx := In (i + 1), ct := In (i + 1), bk := fun s3 => JSs X F sts s3 P, rt := P.rt }) ∧ ∀ s', In n s' → JSs X F sts s' P)
    (hs : ∀ x, foldedSetIterable iter X.env x = pure x := by intro _; rfl) : JSs X F (.For tg iter body [] pos :: sts) s P := jss_cons (js_for bx In h hs)
theorem jss_while {B : Nat} (bx : Bx X B) (W : S → Prop) (μ : S → Nat) (h0 : W s) (h : ∀ s, W s → JT X F c s fun b s2 => if b = true then JSs X F body s2 { nx := fun s3 => W s3 ∧ μ s3 < μ s, ct := fun s3 => W s3 ∧ μ s3 < μ s, bk := fun s3 => JSs X F sts s3 P, rt := P.rt } else JSs X F sts s2 P) :
    JSs X F (.While c body [] pos :: sts) s P := jss_cons (js_while bx W μ h0 h)
theorem jss_par {i j : Nat} {y : Str} {px py pt pt2 : Pos} {kt k2 : Nat} {B : Nat} (bx : Bx X B) (n : NmW X i x) (m : NmW X j y) (hij : i ≠ j) (lx : X.env.scope.names.lookup x = some .local) (ly : X.env.scope.names.lookup y = some .local)
    (hw : swappedStores [.Tuple [.Name x px, .Name y py] kt pt] (.Tuple [a, b] k2 pt2) X.env = pure (some [x, y]))
    (h : JE X F a s fun e1 s1 => JE X F b s1 fun e2 s2 => JSs X F sts ((s2.set i e1).set j e2) P)
    (hs : swapsWithSole [.Tuple [.Name x px, .Name y py] kt pt] (.Tuple [a, b] k2 pt2) pos.line X.env = pure false := by rfl) (ns : NoStar a := by intro _ _; rfl) (ns2 : NoStar b := by intro _ _; rfl) : JSs X F (.Assign [.Tuple [.Name x px, .Name y py] kt pt] (.Tuple [a, b] k2 pt2) pos :: sts) s P :=
  jss_cons (js_par bx n m hij lx ly hw h hs ns ns2)
end
/-! ### branches -/
theorem ite_dec {p A B : Prop} [Decidable p] (h1 : p → A) (h2 : ¬ p → B) : if decide p = true then A else B := by
  by_cases h : p
  · rw [if_pos (decide_eq_true h)]; exact h1 h
  · rw [if_neg (by simpa using h)]; exact h2 h
theorem ite_ndec {p A B : Prop} [Decidable p] (h1 : ¬ p → A) (h2 : p → B) : if (!decide p) = true then A else B := by
  by_cases h : p
  · rw [if_neg (by simpa using h)]; exact h2 h
  · rw [if_pos (by simpa using h)]; exact h1 h
theorem ite_bool {b : Bool} {A B : Prop} (h1 : b = true → A) (h2 : b = false → B) : if b = true then A else B := by
  cases b with
  | true => exact h1 rfl
  | false => exact h2 rfl
theorem ite_nbool {b : Bool} {A B : Prop} (h1 : b = false → A) (h2 : b = true → B) : if (!b) = true then A else B := by
  cases b with
  | true => exact h2 rfl
  | false => exact h1 rfl
theorem ite_nT {A B : Prop} (h : B) : if (!true) = true then A else B := h
theorem ite_nF {A B : Prop} (h : A) : if (!false) = true then A else B := h
end DL
namespace DL
open PySem PySem.Spec PyProof.Rows L2
variable {X : Cx} {F : Fr} {s : S}
theorem env_eq {env : Env} {sc : Scope} (h : env.scope = sc) : env = { env with scope := sc } := by cases env; subst h; rfl
section
variable {e a b c tg iter : Expr} {es rest : List Expr} {sts body : List Stmt} {P : Po} {pos p p' : Pos} {x : Str} {Φ : E → S → Prop} {Ψ : Bool → S → Prop}
variable {Pg : Program} {w : World} {K : PySem.W.Frag} {mg : Str → Option Value} {base : Heap} {N : List Str} {sc : Scope} {kk : Nat}
theorem jss_par' {i j : Nat} {y : Str} {px py pt pt2 : Pos} {kt k2 : Nat} (hX : XIs X Pg w K mg base N sc kk) (n : NmW X i x) (m : NmW X j y) (hij : i ≠ j) (lx : sc.names.lookup x = some .local) (ly : sc.names.lookup y = some .local)
    (h : JE X F a s fun e1 s1 => JE X F b s1 fun e2 s2 => JSs X F sts ((s2.set i e1).set j e2) P)
    (hw : swappedStores [.Tuple [.Name x px, .Name y py] kt pt] (.Tuple [a, b] k2 pt2) { X.env with scope := sc } = pure (some [x, y]))
    (hs : swapsWithSole [.Tuple [.Name x px, .Name y py] kt pt] (.Tuple [a, b] k2 pt2) pos.line X.env = pure false := by rfl) (ns : NoStar a := by intro _ _; rfl) (ns2 : NoStar b := by intro _ _; rfl) : JSs X F (.Assign [.Tuple [.Name x px, .Name y py] kt pt] (.Tuple [a, b] k2 pt2) pos :: sts) s P :=
  jss_par hX.bx n m hij (hX.loc lx) (hX.loc ly) (by rw [env_eq hX.eS]; exact hw) h hs ns ns2
/-! ### in a dict, in a text -/
def memK (k : Key) (ks : List Key) : Bool := ks.any fun k' => decide (k' = k)
theorem memK_iff {k : Key} {ks : List Key} : memK k ks = true ↔ k ∈ ks := by
  unfold memK
  rw [List.any_eq_true]
  constructor
  · rintro ⟨x, h, e⟩
    rw [← of_decide_eq_true e]; exact h
  · intro h
    exact ⟨k, h, decide_eq_true rfl⟩
theorem memK_cons {k k' : Key} {ks : List Key} : memK k (k' :: ks) = (decide (k' = k) || memK k ks) := rfl
theorem lk_mem {k : Key} : ∀ {ks : List Key} {vs : List V}, ks.length = vs.length → (valV (ks.zip vs) k).isSome = memK k ks
  | [], _, _ => by simp [valV, memK]
  | _ :: _, [], h => by simp at h
  | k' :: ks, v :: vs, h => by
    have ih := lk_mem (k := k) (ks := ks) (vs := vs) (by simpa using h)
    rw [memK_cons]
    by_cases e : k' = k
    · subst e
      simp [valV, List.zip_cons_cons, List.find?_cons]
    · have e2 : valV ((k' :: ks).zip (v :: vs)) k = valV (ks.zip vs) k := by simp [valV, List.zip_cons_cons, List.find?_cons, e]
      rw [e2, ih]
      simp [e]
theorem op_inD (hu : X.A.units + 1 < cLine) : OpR X (compareOp .In) (fun x y H Q => ∃ a o, y = .ref a ∧ DGet H a x o ∧ Q (.bl o.isSome) H) := by
  intro pins st σ H x y v u Q I rx ry h
  obtain ⟨a, o, rfl, g, q⟩ := h
  obtain rfl : u = Value.ref a := ry
  exact d_in hu I g rx fun s3 I3 => ⟨.bl o.isSome, H, I3, rfl, q⟩
theorem op_notInD (hu : X.A.units + 1 < cLine) : OpR X (compareOp .NotIn) (fun x y H Q => ∃ a o, y = .ref a ∧ DGet H a x o ∧ Q (.bl (!o.isSome)) H) := by
  intro pins st σ H x y v u Q I rx ry h
  obtain ⟨a, o, rfl, g, q⟩ := h
  obtain rfl : u = Value.ref a := ry
  exact d_notIn hu I g rx fun s3 I3 => ⟨.bl (!o.isSome), H, I3, rfl, q⟩
theorem jr_inD {B : Nat} {e1 e2 : E} {k : Key} {ks : List Key} {es : List E} (bx : Bx X B) (h : s.node e2 = some (.dct ks, es)) (hk : keyE e1 = some k) (q : Φ (.d (.bl (memK k ks))) s) : JR X F (compareOp .In) e1 e2 s Φ :=
  jr_of (op_inD bx.hu) fun as G H σ x y Q c v1 v2 kk => by
    obtain ⟨a, vs, rfl, ⟨n1, n2, od, n3⟩, ves⟩ := c.node v2 h
    obtain rfl := keyE_v hk v1
    exact ⟨a, _, rfl, .inl ⟨_, k, .inr ⟨od, n3⟩, rfl, rfl⟩, by rw [lk_mem n1]; exact kk _ as G H _ s c (Ext.refl _ _) (Rep.bl _) q⟩
theorem jr_ninD {B : Nat} {e1 e2 : E} {k : Key} {ks : List Key} {es : List E} (bx : Bx X B) (h : s.node e2 = some (.dct ks, es)) (hk : keyE e1 = some k) (q : Φ (.d (.bl (!memK k ks))) s) : JR X F (compareOp .NotIn) e1 e2 s Φ :=
  jr_of (op_notInD bx.hu) fun as G H σ x y Q c v1 v2 kk => by
    obtain ⟨a, vs, rfl, ⟨n1, n2, od, n3⟩, ves⟩ := c.node v2 h
    obtain rfl := keyE_v hk v1
    exact ⟨a, _, rfl, .inl ⟨_, k, .inr ⟨od, n3⟩, rfl, rfl⟩, by rw [lk_mem n1]; exact kk _ as G H _ s c (Ext.refl _ _) (Rep.bl _) q⟩
theorem jr_inS {cp : Nat} {z : Str} (q : Φ (.d (.bl (decide (cp ∈ z.cps.toList)))) s) : JR X F (compareOp .In) (.d (.str ⟨#[cp]⟩)) (.d (.str z)) s Φ :=
  jr_of op_in_sign fun as G H σ x y Q c v1 v2 kk => by
    cases v1
    cases v2
    exact ⟨cp, z, rfl, rfl, kk _ as G H _ s c (Ext.refl _ _) (Rep.bl _) q⟩
theorem jr_ninS {cp : Nat} {z : Str} (q : Φ (.d (.bl (!decide (cp ∈ z.cps.toList)))) s) : JR X F (compareOp .NotIn) (.d (.str ⟨#[cp]⟩)) (.d (.str z)) s Φ :=
  jr_of op_notIn_sign fun as G H σ x y Q c v1 v2 kk => by
    cases v1
    cases v2
    exact ⟨cp, z, rfl, rfl, kk _ as G H _ s c (Ext.refl _ _) (Rep.bl _) q⟩
theorem isBl_v {K : PySem.W.Frag} {G : Hp} {as : List Addr} {v : V} {e : E} {b : Bool} (h : VE K G as v e) : decide (v = .bl b) = isBl b e := by
  cases e with
  | r _ => obtain ⟨a, _, rfl⟩ := h; rfl
  | d x => cases h <;> simp [isBl]
theorem jr_isBl {e : E} {b : Bool} (q : Φ (.d (.bl (isBl b e))) s) : JR X F (compareOp .Is) e (.d (.bl b)) s Φ :=
  jr_of op_isBool fun as G H σ x y Q c v1 v2 k => by
    cases v2
    exact ⟨b, rfl, by rw [isBl_v v1]; exact k _ as G H _ s c (Ext.refl _ _) (Rep.bl _) q⟩
/-! ### unary minus -/
theorem ju_neg {i : Int} (q : Φ (.d (.int (-i))) s) : JU X F .USub (.d (.int i)) s Φ := fun as G H σ vs Q c ves k => by
  cases ves with
  | cons ve t =>
    cases t
    cases ve
    intro pins st σ' v I r
    exact un_neg pins st σ' H _ v Q I r ⟨i, rfl, k _ as G H _ s c (Ext.refl _ _) (Rep.int _) q⟩
/-! ### d[k] = v, d owned -/
def dpK (ks : List Key) (k : Key) : List Key := if memK k ks = true then ks else ks ++ [k]
def dpV {α : Type} (ks : List Key) (es : List α) (k : Key) (e : α) : List α := if memK k ks = true then (ks.zip es).map (fun q => if q.1 = k then e else q.2) else es ++ [e]
theorem dpK_nodup {ks : List Key} {k : Key} (h : ks.Nodup) : (dpK ks k).Nodup := by
  unfold dpK
  split
  · exact h
  · rename_i q
    rw [List.nodup_append]
    exact ⟨h, by simp, fun a ha b hb => by simp at hb; subst hb; exact fun z => q (memK_iff.mpr (z ▸ ha))⟩
theorem dpV_len {α : Type} {ks : List Key} {es : List α} {k : Key} {e : α} (h : ks.length = es.length) : (dpK ks k).length = (dpV ks es k e).length := by
  unfold dpK dpV
  split <;> simp [h]
theorem any_mem {k : Key} : ∀ {ks : List Key} {vs : List V}, ks.length = vs.length → ((ks.zip vs).any fun kv => decide (kv.1 = k)) = memK k ks
  | [], _, _ => by simp [memK]
  | _ :: _, [], h => by simp at h
  | k' :: ks, v :: vs, h => by
    rw [List.zip_cons_cons, List.any_cons, any_mem (by simpa using h), memK_cons]
theorem zip_map_put {k : Key} {v : V} : ∀ {ks : List Key} {vs : List V}, (ks.zip vs).map (fun kv => if kv.1 = k then (kv.1, v) else kv) = ks.zip ((ks.zip vs).map fun q => if q.1 = k then v else q.2)
  | [], _ => by simp
  | _ :: _, [] => by simp
  | k' :: ks, w :: vs => by
    rw [List.zip_cons_cons, List.map_cons, List.map_cons, List.zip_cons_cons, zip_map_put]
    by_cases e : k' = k
    · subst e; simp
    · simp [e]
theorem putK_zip {ks : List Key} {vs : List V} {k : Key} {v : V} (h : ks.length = vs.length) : putK (ks.zip vs) k v = (dpK ks k).zip (dpV ks vs k v) := by
  unfold putK dpK dpV
  rw [any_mem h]
  by_cases e : memK k ks = true
  · simp only [e, if_true]
    exact zip_map_put
  · rw [if_neg e, if_neg e, if_neg e, List.zip_append h]
    rfl
theorem ves_dpV {K : PySem.W.Frag} {G : Hp} {as : List Addr} {k : Key} {v : V} {e : E} (ve : VE K G as v e) {ks : List Key} {vs : List V} {es : List E} (h : VEs K G as vs es) : VEs K G as (dpV ks vs k v) (dpV ks es k e) := by
  unfold dpV
  split
  · rename_i hm
    clear hm
    induction h generalizing ks with
    | nil => simp; exact .nil
    | cons h t ih =>
      cases ks with
      | nil => exact .nil
      | cons k' ks =>
        rw [List.zip_cons_cons, List.zip_cons_cons, List.map_cons, List.map_cons]
        refine .cons ?_ ih
        by_cases q : k' = k
        · simp only [q, if_true]; exact ve
        · simp only [q, if_false]; exact h
  · exact h.snoc ve
theorem set_dictZ (hu : X.A.units + 1 < cLine) : PSet X (fun o i v H Q => ∃ (a : Addr) (od : Obj) (kvs : List (Key × V)) (k : Key), o = .ref a ∧ i = kV k ∧ H a = some (.frz od (.dK kvs)) ∧ (∀ o' u', X.H_0 a ≠ some (.frz o' u')) ∧ kvs.length < sizeLine ∧ ∀ od', Q (upd H a (.frz od' (.dK (putK kvs k v))))) := by
  intro pins st σ H o i v ov iv u Q I ro ri rv h
  obtain ⟨a, od, kvs, k, rfl, rfl, ha, hn, hz, q⟩ := h
  obtain rfl : ov = Value.ref a := ro
  have I1 := I.unlock ha hn
  refine d_setItem (H' := upd H a (.dK (putK kvs k v))) hu I1 (.inl ⟨kvs, k, upd_same, rfl, hz, by rw [upd_upd]⟩) ri rv fun s' I2 => ?_
  obtain ⟨od', I3⟩ := I2.lock (d := a) upd_same trivial
  rw [upd_upd] at I3
  exact ⟨_, I3, q od'⟩
theorem jg_setD {B : Nat} {o i : Expr} {v : E} {Φ : S → Prop} (bx : Bx X B) (hH : X.H_0 = F.H0) (h : JE X F o s fun eo s1 => JE X F i s1 fun ei s2 => ∃ k ks es kk, eo = .r k ∧ keyE ei = some kk ∧ nth s2.ce k = some (.nd (.dct ks) es) ∧ s2.ar ≤ k ∧ es.length < sizeLine ∧ Φ (s2.put k (.dct (dpK ks kk)) (dpV ks es kk v)))
    (ha : ∀ v, assign (.Subscript o i p) X.env v = (do
      let ov ← holding [v] (eval o X.env)
      let iv ← holding [v, ov] (eval i X.env)
      standAt p
      holding [v, ov, iv] (setItem ov iv v)
      release [v, ov, iv] []) := by intro _; rfl) : JG X F (.Subscript o i p) v s Φ :=
  fun as G H σ u Q c ve k => PG.sem (pg_sub (pe_sem X o) (pe_sem X i) (set_dictZ bx.hu) ha) (h as G H σ _ c fun v1 as1 G1 H1 e1 s1 c1 x1 ve1 h1 => h1 as1 G1 H1 σ _ c1 fun v2 as2 G2 H2 e2 s2 c2 x2 ve2 ⟨j, ks, es, kk, q1, q2, q3, q4, q5, q6⟩ => by
    subst q1
    obtain rfl := keyE_v q2 ve2
    obtain ⟨a, ha, rfl⟩ := x2.ve ve1
    rw [nth_eq] at q3
    obtain ⟨a', vs, g1, ⟨g2, g3, od, g4⟩, g5⟩ := c2.cells j _ _ q3
    rw [ha] at g1
    cases g1
    have hl := Paired.length g5
    have nA : a ∉ F.A0 := fun z => by
      obtain ⟨l, hl⟩ := List.getElem?_of_mem z
      have q := pre_get c2.pre hl
      obtain ⟨l1, e1⟩ := List.getElem?_eq_some_iff.mp q
      obtain ⟨l2, e2⟩ := List.getElem?_eq_some_iff.mp ha
      have := (List.getElem_inj c2.nd).mp (e1.trans e2.symm)
      have l3 := (List.getElem?_eq_some_iff.mp hl).1
      rw [c2.har] at l3
      omega
    have h0 : F.H0 a = none := (c2.fresh a (List.mem_of_getElem? ha)).resolve_left nA
    refine ⟨a, od, _, kk, rfl, rfl, g4, fun o' u' z => (by rw [hH, h0] at z; cases z), by rw [List.length_zip, g2, Nat.min_self, hl]; exact q5, fun od' => ?_⟩
    rw [putK_zip g2]
    exact k as2 G2 _ σ _ (c2.put (kd := .dct (dpK ks kk)) q3 ha ⟨dpV_len g2, dpK_nodup g3, od', upd_same⟩ (ves_dpV ((x1.trans x2).ve ve) g5)) (x1.trans x2) q6)
/-! ### sorted, sum, all -/
def rSortD : List V → Hp → VK → Prop := fun xs H Q => ∃ (a : Addr) (kvs : List (Key × V)) (ks : List Str), xs = [.ref a] ∧ Rd H a (.dK kvs) ∧ kvs.map (·.1) = ks.map Sum.inr ∧ ks.length < 64 ∧
    ∀ ys p, ys.Perm ks → sortedS ys = true → H p = none → Q (.ref p) (upd H p (.lst (ys.map V.str)))
theorem reps_strs {K : PySem.W.Frag} {G : Hp} : ∀ (ys : List Str), Reps K G (ys.map V.str) (ys.map D.str)
  | [] => .nil
  | y :: ys => .cons (.str y) (reps_strs ys)
theorem reps_ints {K : PySem.W.Frag} {G : Hp} : ∀ (ys : List Int), Reps K G (ys.map V.int) (ys.map D.int)
  | [] => .nil
  | y :: ys => .cons (.int y) (reps_ints ys)
/-- sorted of a dict's text keys: a new list -/
theorem je_sortedD {B : Nat} (bx : Bx X B) (g : GlB X "sorted") (h : JE X F a s fun e s1 => ∃ (ks : List Str) (es : List E), s1.node e = some (.dct (ks.map Sum.inr), es) ∧ ks.length < 64 ∧ ∀ ys, ys.Perm ks → sortedS ys = true → Φ (.d (.nd .lst (ys.map .str))) s1)
    (ns : NoStar a := by intro _ _; rfl) : JE X F (.Call (.Name "sorted" p) [a] [] pos) s Φ :=
  je_of (pe_callB (r := rSortD) (call_sortedD bx.calm) g.gl g.mg PyProof.Rows.boot_sorted (pa_cons (pe_sem X a) pa_nil (ns _ _)) (he := ns _ _)) fun as G H σ Q c k => h as G H σ _ c fun v as1 G1 H1 e1 s1 c1 x1 ve ⟨ks, es, h1, h2, h3⟩ => by
    obtain ⟨d, vs, rfl, ⟨n1, n2, od, n3⟩, ves⟩ := c1.node ve h1
    refine ⟨d, _, ks, rfl, .inr ⟨od, n3⟩, by rw [List.map_fst_zip (by omega)], h2, fun ys q hy hs hq => ?_⟩
    have sg : Same G1 (upd G1 q (.lst (ys.map V.str))) := same_new (c1.gnone hq)
    exact k _ as1 _ _ (.d (.nd .lst (ys.map .str))) s1 (c1.addG hq) (x1.trans ⟨List.prefix_refl _, sg⟩) (.nd (SqL.of upd_same) (reps_strs ys)) (h3 ys hy hs)
/-- sorted of a list of texts -/
theorem je_sortedS (g : GlB X "sorted") (h : JE X F a s fun e s1 => ∃ (ks : List Str), s1.node e = some (.lst, (ks.map D.str).map .d) ∧ ks.length < 64 ∧ ∀ ys, ys.Perm ks → sortedS ys = true → Φ (.d (.nd .lst (ys.map .str))) s1)
    (ns : NoStar a := by intro _ _; rfl) : JE X F (.Call (.Name "sorted" p) [a] [] pos) s Φ :=
  je_of (pe_callB (r := rSortedS X.K) cr_sortedS g.gl g.mg PyProof.Rows.boot_sorted (pa_cons (pe_sem X a) pa_nil (ns _ _)) (he := ns _ _)) fun as G H σ Q c k => h as G H σ _ c fun v as1 G1 H1 e1 s1 c1 x1 ve ⟨ks, h1, h2, h3⟩ => by
    obtain ⟨d, vs, rfl, n, ves⟩ := c1.node ve h1
    have hv : vs = ks.map V.str := by
      have := ves.reps
      clear h1 h2 h3 n ves
      induction ks generalizing vs with
      | nil => cases this; rfl
      | cons y ks ih => cases this with
        | cons a b => cases a; rw [ih _ b]; rfl
    subst hv
    refine ⟨d, ks, rfl, n, h2, fun ys q hy hs hq => ?_⟩
    have sg : Same G1 (upd G1 q (.lst (ys.map V.str))) := same_new (c1.gnone hq)
    exact k _ as1 _ _ (.d (.nd .lst (ys.map .str))) s1 (c1.addG hq) (x1.trans ⟨List.prefix_refl _, sg⟩) (.nd (SqL.of upd_same) (reps_strs ys)) (h3 ys hy hs)
theorem vs_ints {K : PySem.W.Frag} {G : Hp} : ∀ {ns : List Int} {vs : List V}, Reps K G vs (ns.map D.int) → vs = ns.map V.int
  | [], _, .nil => rfl
  | n :: ns, _, .cons a b => by cases a; rw [vs_ints b]; rfl
theorem vs_bls {K : PySem.W.Frag} {G : Hp} : ∀ {ns : List Bool} {vs : List V}, Reps K G vs (ns.map D.bl) → vs = ns.map V.bl
  | [], _, .nil => rfl
  | n :: ns, _, .cons a b => by cases a; rw [vs_bls b]; rfl
theorem je_sum {B : Nat} (bx : Bx X B) (g : GlB X "sum") (h : JE X F a s fun e s1 => ∃ ns : List Int, s1.node e = some (.lst, (ns.map D.int).map .d) ∧ Φ (.d (.int ns.sum)) s1) (ns : NoStar a := by intro _ _; rfl) : JE X F (.Call (.Name "sum" p) [a] [] pos) s Φ :=
  je_of (pe_callB (cr_sum bx.calm) g.gl g.mg PyProof.Rows.boot_sum (pa_cons (pe_sem X a) pa_nil (ns _ _)) (he := ns _ _)) fun as G H σ Q c k => h as G H σ _ c fun v as1 G1 H1 e1 s1 c1 x1 ve ⟨ms, h1, h2⟩ => by
    obtain ⟨d, vs, rfl, n, ves⟩ := c1.node ve h1
    obtain rfl := vs_ints ves.reps
    exact ⟨d, ms, rfl, n, k _ as1 G1 H1 _ s1 c1 x1 (Rep.int _) h2⟩
theorem je_all {B : Nat} (bx : Bx X B) (g : GlB X "all") (h : JE X F a s fun e s1 => ∃ bs : List Bool, s1.node e = some (.lst, (bs.map D.bl).map .d) ∧ Φ (.d (.bl (bs.all id))) s1) (ns : NoStar a := by intro _ _; rfl) : JE X F (.Call (.Name "all" p) [a] [] pos) s Φ :=
  je_of (pe_callB (cr_all bx.calm) g.gl g.mg PyProof.Rows.boot_all (pa_cons (pe_sem X a) pa_nil (ns _ _)) (he := ns _ _)) fun as G H σ Q c k => h as G H σ _ c fun v as1 G1 H1 e1 s1 c1 x1 ve ⟨ms, h1, h2⟩ => by
    obtain ⟨d, vs, rfl, n, ves⟩ := c1.node ve h1
    obtain rfl := vs_bls ves.reps
    exact ⟨d, ms, rfl, n, k _ as1 G1 H1 _ s1 c1 x1 (Rep.bl _) h2⟩
/-- tuple(a list): a new tuple -/
theorem jn_tupleL {Θ : Kd → List E → S → Prop} (g : GlB X "tuple") (h : JE X F a s fun e s1 => ∃ es, s1.node e = some (.lst, es) ∧ Θ .tup es s1) (ns : NoStar a := by intro _ _; rfl) : JN X F (.Call (.Name "tuple" p) [a] [] pos) s Θ := fun as G H σ Q c k =>
  PE.sem (pe_callTy call_tuple_of g.gl g.mg PyProof.Rows.boot_tuple (pa_cons (pe_sem X a) pa_nil (ns _ _)) (he := ns _ _)) (h as G H σ _ c fun v as1 G1 H1 e1 s1 c1 x1 ve ⟨es, h1, h2⟩ => by
    obtain ⟨d, vs, rfl, n, ves⟩ := c1.node ve h1
    exact ⟨d, vs, rfl, .inl ⟨n, fun q hq => k q vs as1 G1 H1 .tup es s1 c1 x1 hq (fun ks z => by cases z) ves h2⟩⟩)
theorem jn_listS {Θ : Kd → List E → S → Prop} (g : GlB X "list") (h : JE X F a s fun e s1 => ∃ kd es, s1.node e = some (kd, es) ∧ (kd = .lst ∨ kd = .tup) ∧ Θ .lst es s1) (ns : NoStar a := by intro _ _; rfl) : JN X F (.Call (.Name "list" p) [a] [] pos) s Θ := fun as G H σ Q c k =>
  PE.sem (pe_callTy call_list_of g.gl g.mg PyProof.Rows.boot_list (pa_cons (pe_sem X a) pa_nil (ns _ _)) (he := ns _ _)) (h as G H σ _ c fun v as1 G1 H1 e1 s1 c1 x1 ve ⟨kd, es, h1, hk, h2⟩ => by
    obtain ⟨d, vs, rfl, n, ves⟩ := c1.node ve h1
    refine ⟨d, vs, rfl, ?_, fun q hq => k q vs as1 G1 H1 .lst es s1 c1 x1 hq (fun ks z => by cases z) ves h2⟩
    rcases hk with rfl | rfl
    · exact .inl n
    · exact .inr n)
/-! ### slices -/
def JO (X : Cx) (F : Fr) (o : Option Expr) (s : S) (Φ : Option Int → S → Prop) : Prop := match o with
  | none => Φ none s
  | some e => JE X F e s fun e1 s1 => ∃ i, e1 = .d (.int i) ∧ Φ (some i) s1
def tO (X : Cx) (o : Option Expr) : TO := match o with
  | none => tNoPart
  | some e => tPart (semE X e)
theorem po_sem (X : Cx) : ∀ o, PO X o (tO X o)
  | none => po_none
  | some e => po_some (pe_sem X e)
theorem jo_run {o : Option Expr} {Φ : Option Int → S → Prop} {as : List Addr} {G H : Hp} {σ : L2.St} {Q : Option Int → Hp → Prop} (h : JO X F o s Φ) (c : Cz X F as G H σ s) (k : ∀ i as' G' H' s', Cz X F as' G' H' σ s' → Ext as as' G G' → Φ i s' → Q i H') : tO X o σ H Q := by
  match o, h with
  | none, h => exact k none as G H s c (Ext.refl _ _) h
  | some e, h =>
    refine h as G H σ _ c fun v as1 G1 H1 e1 s1 c1 x1 ve ⟨i, q1, q2⟩ => ?_
    subst q1
    cases ve
    exact ⟨i, rfl, k (some i) as1 G1 H1 s1 c1 x1 q2⟩
theorem je_sliceS {lo hi : Option Expr} {p2 : Pos} (h : JE X F a s fun e s1 => JO X F lo s1 fun l s2 => JO X F hi s2 fun u s3 => ∃ z, e = .d (.str z) ∧ z.length ≤ sizeLine ∧ Φ (.d (.str (cutS z l u))) s3) : JE X F (.Subscript a (.Slice lo hi none p2) pos) s Φ :=
  je_of (pe_slice sl_str (pe_sem X a) (po_sem X lo) (po_sem X hi)) fun as G H σ Q c k => h as G H σ _ c fun v as1 G1 H1 e1 s1 c1 x1 ve h1 => jo_run h1 c1 fun l as2 G2 H2 s2 c2 x2 h2 => jo_run h2 c2 fun u as3 G3 H3 s3 c3 x3 ⟨z, q1, q2, q3⟩ => by
    subst q1
    cases ve
    exact ⟨z, rfl, q2, k _ as3 G3 H3 _ s3 c3 ((x1.trans x2).trans x3) (Rep.str _) q3⟩
end
end DL
namespace DL
open PySem PySem.Spec PyProof.Rows L2
variable {X : Cx} {F : Fr} {s : S}
section
variable {as as1 as' : List Addr} {G G1 G' H H1 H' : Hp} {σ : L2.St}
/-- what stands and is no owned cell is frozen -/
theorem Cz.frzG (c : Cz X F as G H σ s) {b : Addr} {o : HO} (ho : H b = some o) (gn : G b = none) (hb : b ∉ as) (h0 : F.H0 b = none) : Cz X F as (upd G b o) H σ s := by
  have sg : Same G (upd G b o) := same_new gn
  refine ⟨fun d u q => ?_, c.base.trans sg, fun d q1 q2 => ?_, c.frame, c.len, c.pre, c.nd, fun k a kd es q1 q2 => ?_, c.fresh, c.there, fun k kd es q => ?_, fun i e q => ?_, c.slen, c.har⟩
  · by_cases hd : d = b
    · subst hd; rw [upd_same] at q; rw [ho, ← q]
    · rw [upd_ne hd] at q; exact c.sub d u q
  · have hd : d ≠ b := fun z => by rw [z] at q2; exact q2 h0
    rw [upd_ne hd]; exact c.new d q1 q2
  · have hd : a ≠ b := fun z => hb (by rw [← z]; exact List.mem_of_getElem? q1)
    rw [upd_ne hd]; exact c.own k a kd es q1 q2
  · obtain ⟨a, vs, w1, w2, w3⟩ := c.cells k kd es q
    exact ⟨a, vs, w1, w2, w3.mono (List.prefix_refl _) sg⟩
  · obtain ⟨v, w1, w2⟩ := c.slots i e q
    exact ⟨v, w1, w2.mono (List.prefix_refl _) sg⟩
theorem VE.lt {K : PySem.W.Frag} {v : V} : ∀ {e : E}, VE K G as v e → e.lt as.length = true
  | .d _, _ => rfl
  | .r k, ⟨a, h, _⟩ => by
    have := (List.getElem?_eq_some_iff.mp h).1
    simp [E.lt, this]
theorem Cz.popFrz (c1 : Cz X F as1 G1 H1 σ s) {kd : Kd} {ds : List D} (c' : Cz X F as' G' H' σ (s.push kd (ds.map .d))) (x : Ext as1 as' G1 G') :
    ∃ G2, Cz X F as1 G2 H' σ s ∧ Same G' G2 ∧ ∀ q, as'[s.ce.length]? = some q → Rep X.K G2 (.ref q) (.nd kd ds) := by
  have w : Wk (s.push kd (ds.map .d)) s := ⟨fun i e h => h, rfl, ⟨_, rfl⟩, rfl, by rw [← c1.har, ← c1.len]; exact c1.pre.length_le⟩
  have lt1 : ∀ (i : Nat) (e : E), s.sl[i]? = some (some e) → e.lt s.ce.length = true := fun i e h => by
    obtain ⟨v, _, q⟩ := c1.slots i e h
    rw [← c1.len]; exact q.lt
  have lt2 : ∀ (k : Nat) (kd : Kd) (es : List E), s.ce[k]? = some (.nd kd es) → ∀ e ∈ es, E.lt s.ce.length e = true := fun k kd es h e he => by
    obtain ⟨a, vs, _, _, q⟩ := c1.cells k kd es h
    obtain ⟨j, hj⟩ := List.getElem?_of_mem he
    obtain ⟨v, _, q2⟩ := q.get' hj
    rw [← c1.len]; exact q2.lt
  have c2 := c'.weak w lt1 lt2
  have ea : as'.take s.ce.length = as1 := by
    obtain ⟨t, rfl⟩ := x.pre
    rw [← c1.len, List.take_left]
  rw [ea] at c2
  obtain ⟨q, hq⟩ : ∃ q, as'[s.ce.length]? = some q := by
    have : s.ce.length < as'.length := by
      rw [c'.len]
      show _ < (s.ce ++ [Cell.nd kd (ds.map .d)]).length
      simp
    exact ⟨_, List.getElem?_eq_getElem this⟩
  have hce : (s.push kd (ds.map .d)).ce[s.ce.length]? = some (.nd kd (ds.map .d)) := by
    show (s.ce ++ [Cell.nd kd (ds.map .d)])[s.ce.length]? = _
    rw [List.getElem?_append_right (Nat.le_refl _)]; simp
  obtain ⟨q', vs, g1, g2, g3⟩ := c'.cells _ _ _ hce
  rw [hq] at g1
  cases g1
  obtain ⟨o, ho⟩ := g2.some
  have gn : G' q = none := c'.own _ _ _ _ hq hce
  have nin : q ∉ as1 := fun z => by
    obtain ⟨j, hj⟩ := List.getElem?_of_mem z
    have h1 := pre_get x.pre hj
    obtain ⟨l1, e1⟩ := List.getElem?_eq_some_iff.mp h1
    obtain ⟨l2, e2⟩ := List.getElem?_eq_some_iff.mp hq
    have e3 := (List.getElem_inj c'.nd).mp (e1.trans e2.symm)
    have l3 := (List.getElem?_eq_some_iff.mp hj).1
    rw [c1.len] at l3
    omega
  have h0 : F.H0 q = none := (c'.fresh q (List.mem_of_getElem? hq)).resolve_left fun z => nin (c1.pre.subset z)
  refine ⟨upd G' q o, c2.frzG ho gn nin h0, same_new gn, fun q2 hq2 => ?_⟩
  rw [hq] at hq2
  cases hq2
  have cg : CellAt (upd G' q o) q vs kd := g2.keep fun u z => by rw [upd_same, ← ho, z]
  exact .nd cg.node (g3.reps.mono (same_new gn))
end
section
variable {e a b c elt iter kx vx : Expr} {es ifs : List Expr} {scope : Scope} {own : List (Str × Nat)} {pos p : Pos} {x : Str} {j B : Nat} {Φ : E → S → Prop}
/-- what an expression has made last, frozen -/
theorem je_pop {kd : Kd} (h : JE X F e s fun e1 s1 => ∃ ds, e1 = .r s.ce.length ∧ s1 = s.push kd (ds.map .d) ∧ Φ (.d (.nd kd ds)) s) : JE X F e s Φ := fun as G H σ Q c k =>
  h as G H σ Q c fun v as1 G1 H1 e1 s1 c1 x1 ve ⟨ds, q1, q2, q3⟩ => by
    subst q1 q2
    obtain ⟨G2, c2, sg, rep⟩ := c.popFrz c1 x1
    obtain ⟨q, hq, rfl⟩ := ve
    exact k _ as G2 H1 _ s c2 ⟨List.prefix_refl _, x1.sub.trans sg⟩ (rep q hq) q3
/-- a call whose new answer is frozen at once -/
def RtΦd (Φ : E → S → Prop) (s : S) : Rt → Prop
  | .dat x => Φ (.d x) s
  | .new kd ds => Φ (.d (.nd kd ds)) s
theorem rtΦd_dat {d : D} (h : Φ (.d d) s) : RtΦd Φ s (.dat d) := h
theorem rtΦd_new {kd : Kd} {ds : List D} (h : Φ (.d (.nd kd ds)) s) : RtΦd Φ s (.new kd ds) := h
theorem frz_new {as1 : List Addr} {G' H' H1 : Hp} {σ : L2.St} {s1 : S} {v : V} {kd : Kd} {ds' : List D} (c2 : Cz X F as1 G' H' σ s1) (hn : ∀ b, H1 b = none → b ∉ as1 ∧ F.H0 b = none) (q5 : RtAt X.K G' H' H1 v (.new kd ds')) : ∃ G2, Cz X F as1 G2 H' σ s1 ∧ Same G' G2 ∧ Rep X.K G2 v (.nd kd ds') := by
  obtain ⟨b, ws, rfl, w1, w2, w3, w4⟩ := q5
  obtain ⟨o, ho⟩ := w3.some
  obtain ⟨n1, n2⟩ := hn b w1
  have cg : CellAt (upd G' b o) b ws kd := w3.keep fun u z => by rw [upd_same, ← ho, z]
  exact ⟨upd G' b o, c2.frzG ho w2 n1 n2, same_new w2, .nd cg.node (w4.mono (same_new w2))⟩
theorem je_callPd {R : RP} {k : Nat} (cb : CbP X x k R) (bx : Bx X B) (hB : k ≤ B)
    (h : JA X F (a :: es) s fun vs s1 => ∃ ds, dsOf vs = some ds ∧ R ds (RtΦd Φ s1)) (hdb : (x == ("__debug__" : Str)) = false := by decide) (he : starEach (a :: es) X.env = (false, eval a X.env) :: starEach es X.env := by rfl)
    (hpl : (backTo pos (starEach es X.env)).any (·.1) = false := by rfl) : JE X F (.Call (.Name x p) (a :: es) [] pos) s Φ := by
  obtain ⟨f, fd, ps, h1, h2, h3, h4⟩ := cb.ex
  refine je_of (pe_call h4 (bx.room.mono hB) cb.gl h1 h2 h3 .nil pass0 (pa_sem X _) hdb he hpl) fun as G H σ Q c kk => h as G H σ _ c fun vs as1 G1 H1 es1 s1 c1 x1 ves ⟨ds, e1, hR⟩ => ?_
  rw [List.append_nil]
  rw [dsOf_eq e1] at ves
  refine ⟨G1, ds, c1.sub, ves.reps, cb.mono ds _ _ (fun r hr v G' H' q1 q2 q3 q4 q5 => ?_) hR⟩
  have c2 := c1.call q1 q2 q3 q4
  have x2 : Ext as1 as1 G1 G' := ⟨List.prefix_refl _, q2⟩
  cases r with
  | dat y => exact kk v as1 G' H' (.d y) s1 c2 (x1.trans x2) q5 hr
  | new kd ds' =>
    obtain ⟨G2, c3, sg, rep⟩ := frz_new c2 (fun b hb => ⟨c1.notin hb, c1.h0none hb⟩) q5
    exact kk v as1 G2 H' _ s1 c3 (x1.trans ⟨List.prefix_refl _, q2.trans sg⟩) rep hr
/-! ### pure comprehensions -/
/-- the state in the block -/
def S.blk (s : S) (vs : List Nat) (acc : List E) (j : Nat) (v : E) : S := ((s.wipe vs).push .lst acc).set j v
theorem set_wipe {s : S} {vs : List Nat} {j : Nat} {v : E} (hj : j ∈ vs) : (s.set j v).wipe vs = s.wipe vs := by
  have h : wipeN (setN s.sl j (some v)) vs = wipeN s.sl vs := by
    apply List.ext_getElem?
    intro i
    by_cases hi : i ∈ vs
    · have key : ∀ {l : List (Option E)} {vs : List Nat}, i ∈ vs → (wipeN l vs)[i]? = if i < l.length then some none else none := by
        intro l vs h
        induction vs with
        | nil => cases h
        | cons v vs ih =>
          unfold wipeN
          rw [setN_eq]
          by_cases hv : v = i
          · subst hv
            by_cases hl : v < l.length
            · rw [List.getElem?_set_self (by rw [wipeN_len]; exact hl), if_pos hl]
            · rw [List.getElem?_eq_none (by rw [List.length_set, wipeN_len]; omega), if_neg hl]
          · rw [List.getElem?_set_ne hv]
            exact ih ((List.mem_cons.mp h).resolve_left fun z => hv z.symm)
      rw [key hi, key hi, setN_eq, List.length_set]
    · have key : ∀ {l : List (Option E)} {vs : List Nat}, i ∉ vs → (wipeN l vs)[i]? = l[i]? := by
        intro l vs h
        induction vs with
        | nil => rfl
        | cons v vs ih =>
          unfold wipeN
          rw [setN_eq, List.getElem?_set_ne (fun z => h (by rw [z]; exact List.mem_cons_self)), ih fun z => h (List.mem_cons_of_mem _ z)]
      rw [key hi, key hi, setN_eq, List.getElem?_set_ne (fun z => hi (by rw [← z]; exact hj))]
  show (⟨wipeN (setN s.sl j (some v)) vs, s.ce, s.ar⟩ : S) = ⟨wipeN s.sl vs, s.ce, s.ar⟩
  rw [h]
theorem wipe_wipe {s : S} {vs : List Nat} : (s.wipe vs).wipe vs = s.wipe vs := by
  have h : wipeN (wipeN s.sl vs) vs = wipeN s.sl vs := by
    apply List.ext_getElem?
    intro i
    by_cases hi : i ∈ vs
    · have key : ∀ {l : List (Option E)} {vs : List Nat}, i ∈ vs → (wipeN l vs)[i]? = if i < l.length then some none else none := by
        intro l vs h
        induction vs with
        | nil => cases h
        | cons v vs ih =>
          unfold wipeN
          rw [setN_eq]
          by_cases hv : v = i
          · subst hv
            by_cases hl : v < l.length
            · rw [List.getElem?_set_self (by rw [wipeN_len]; exact hl), if_pos hl]
            · rw [List.getElem?_eq_none (by rw [List.length_set, wipeN_len]; omega), if_neg hl]
          · rw [List.getElem?_set_ne hv]
            exact ih ((List.mem_cons.mp h).resolve_left fun z => hv z.symm)
      rw [key hi, key hi, wipeN_len]
    · have key : ∀ {l : List (Option E)} {vs : List Nat}, i ∉ vs → (wipeN l vs)[i]? = l[i]? := by
        intro l vs h
        induction vs with
        | nil => rfl
        | cons v vs ih =>
          unfold wipeN
          rw [setN_eq, List.getElem?_set_ne (fun z => h (by rw [z]; exact List.mem_cons_self)), ih fun z => h (List.mem_cons_of_mem _ z)]
      rw [key hi]
  show (⟨wipeN (wipeN s.sl vs) vs, s.ce, s.ar⟩ : S) = ⟨wipeN s.sl vs, s.ce, s.ar⟩
  rw [h]
theorem lc_pure (hj : j ∈ own.map (·.2)) {n : Nat} {it : Nat → E → Prop} {s1 : S} {f : Nat → D} (hn : n ≤ 16000000)
    (ht : ∀ i v acc, i < n → it i v → ∀ Y, IsBlk X scope Y → JE Y F elt (s1.blk (own.map (·.2)) acc j v) fun y s3 => y = .d (f i) ∧ s3 = s1.blk (own.map (·.2)) acc j v) :
    let In : Nat → List E → S → Prop := fun i acc s' => acc = ((List.range i).map f).map .d ∧ s' = (s1.wipe (own.map (·.2))).push .lst acc
    In 0 [] ((s1.wipe (own.map (·.2))).push .lst []) ∧
      (∀ i v acc s', i < n → it i v → In i acc s' → nth s'.ce s1.ce.length = some (.nd .lst acc) ∧ ∀ Y, IsBlk X scope Y → JTs Y F ([] : List Expr) (s'.set j v) fun b s2 =>
        if b = true then ∀ Y2, IsBlk X scope Y2 → JE Y2 F elt s2 fun y s3 => nth s3.ce s1.ce.length = some (.nd .lst acc) ∧ acc.length < sizeLine ∧ In (i + 1) (acc ++ [y]) ((s3.put s1.ce.length .lst (acc ++ [y])).wipe (own.map (·.2)))
        else In (i + 1) acc (s2.wipe (own.map (·.2)))) := by
  intro In
  refine ⟨⟨rfl, rfl⟩, ?_⟩
  rintro i v acc s' hi hv ⟨rfl, rfl⟩
  have hce : ∀ (t : S) (l : List E), (t.push .lst l).ce = t.ce ++ [Cell.nd .lst l] := fun _ _ => rfl
  have hnth : nth ((s1.wipe (own.map (·.2))).push .lst (((List.range i).map f).map .d)).ce s1.ce.length = some (.nd .lst (((List.range i).map f).map .d)) := by
    rw [nth_eq, hce]
    show (s1.ce ++ [_])[s1.ce.length]? = _
    rw [List.getElem?_append_right (Nat.le_refl _)]
    simp
  refine ⟨hnth, fun Y hY => ?_⟩
  dsimp only [JTs]
  refine L2.iteT ?_
  refine fun Y2 hY2 => (ht i v _ hi hv Y2 hY2).mono fun y s3 ⟨e1, e2⟩ => ?_
  subst e1 e2
  refine ⟨hnth, by simp; rw [sizeLine_eq]; omega, ?_, ?_⟩
  · rw [List.range_succ]; simp
  · have hput : (s1.blk (own.map (·.2)) (((List.range i).map f).map .d) j v).put s1.ce.length .lst ((((List.range i).map f).map .d) ++ [.d (f i)]) = ((s1.wipe (own.map (·.2))).push .lst ((((List.range i).map f).map .d) ++ [.d (f i)])).set j v := by
      show (⟨_, setN (s1.ce ++ [Cell.nd .lst _]) s1.ce.length _, _⟩ : S) = ⟨_, s1.ce ++ [_], _⟩
      rw [setN_eq, List.set_append_right _ _ (Nat.le_refl _)]
      simp
      exact ⟨rfl, rfl⟩
    rw [hput, set_wipe hj]
    show (⟨wipeN (wipeN s1.sl _) _, _, _⟩ : S) = ⟨wipeN s1.sl _, _, _⟩
    have := congrArg S.sl (wipe_wipe (s := s1) (vs := own.map (·.2)))
    have this : wipeN (wipeN s1.sl (own.map (·.2))) (own.map (·.2)) = wipeN s1.sl (own.map (·.2)) := this
    rw [this]
    rfl
/-- [elt for x in iter], the elements pure: the list, frozen -/
theorem je_lcP (bx : Bx X B) (ok : BlkOk X.N X.env.scope scope own) (hj : j ∈ own.map (·.2)) (hn : ∀ Y, IsBlk X scope Y → NmW Y j x)
    (h : JI X F (.Name x p) iter s fun n it s1 => s1 = s ∧ n ≤ 16000000 ∧ ∃ f : Nat → D, (∀ i v acc, i < n → it i v → ∀ Y, IsBlk X scope Y → JE Y F elt (s.blk (own.map (·.2)) acc j v) fun y s3 => y = .d (f i) ∧ s3 = s.blk (own.map (·.2)) acc j v) ∧ Φ (.d (.nd .lst ((List.range n).map f))) s)
    (hs : ∀ x, foldedSetIterable iter X.env x = pure x := by intro _; rfl) : JE X F (.ListComp elt [⟨.Name x p, iter, [], 0⟩] scope pos) s Φ := by
  refine je_pop (kd := .lst) (je_lc bx ok hj hn (fun as G H σ R c k => h as G H σ R c fun J as1 G1 H1 s1 n it c1 x1 okJ ⟨q1, q2, f, q3, q4⟩ => ?_) hs)
  subst q1
  refine k J as1 G1 H1 s1 n it c1 x1 okJ ⟨_, (lc_pure hj q2 q3).1, (lc_pure hj q2 q3).2, ?_⟩
  rintro acc s' ⟨rfl, rfl⟩
  exact ⟨_, rfl, rfl, q4⟩
end
end DL
namespace DL
open PySem PySem.Spec PyProof.Rows L2
variable {X : Cx} {F : Fr} {s : S}
/-! ### a frame within a frame -/
section
variable {as as' : List Addr} {G G' H H' : Hp} {σ σ' : L2.St}
def S.in (s : S) : S := ⟨s.sl, s.ce, s.ce.length⟩
theorem Cz.enter (c : Cz X F as G H σ s) : Cz X ⟨G, H, as⟩ as G H σ s.in :=
  ⟨c.sub, Same.refl _, fun b h _ => h, fun b o h _ => h, c.len, List.prefix_refl _, c.nd, c.own, fun a h => .inl h, c.there, c.cells, c.slots, c.slen, c.len⟩
theorem Cz.leave {s' : S} (c : Cz X F as G H σ s) (c' : Cz X ⟨G, H, as⟩ as' G' H' σ' s') : Cz X F as' G' H' σ' ⟨s'.sl, s'.ce, s.ar⟩ := by
  refine ⟨c'.sub, c.base.trans c'.base, fun b h1 h2 => ?_, fun b o h1 h2 => ?_, c'.len, c.pre.trans c'.pre, c'.nd, c'.own, fun a ha => ?_, c'.there, c'.cells, c'.slots, c'.slen, c.har⟩
  · refine c'.new b (c.new b h1 h2) fun z => ?_
    by_cases hA : b ∈ F.A0
    · exact c.there b (c.pre.subset hA) z
    · cases q : F.H0 b with
      | none => exact h2 q
      | some o => have := c.frame b o q hA; rw [show H b = none from z] at this; cases this
  · refine c'.frame b o (c.frame b o h1 h2) fun z => ?_
    rcases c.fresh b z with q | q
    · exact h2 q
    · rw [q] at h1; cases h1
  · rcases c'.fresh a ha with z | z
    · exact c.fresh a z
    · exact .inr (c.h0none z)
end
/-! ### a dict comprehension, pure -/
section
variable {elt iter kx vx : Expr} {scope : Scope} {own : List (Str × Nat)} {pos p : Pos} {x : Str} {j B : Nat} {Φ : E → S → Prop}
def dcF (kf : Nat → Key) (f : Nat → D) : Nat → List Key × List D
  | 0 => ([], [])
  | n + 1 => (dpK (dcF kf f n).1 (kf n), dpV (dcF kf f n).1 (dcF kf f n).2 (kf n) (f n))
theorem dcF_ok (kf : Nat → Key) (f : Nat → D) : ∀ n, (dcF kf f n).1.length = (dcF kf f n).2.length ∧ (dcF kf f n).1.Nodup ∧ (dcF kf f n).1.length ≤ n
  | 0 => ⟨rfl, List.nodup_nil, Nat.le_refl _⟩
  | n + 1 => by
    obtain ⟨h1, h2, h3⟩ := dcF_ok kf f n
    refine ⟨dpV_len h1, dpK_nodup h2, ?_⟩
    show (dpK (dcF kf f n).1 (kf n)).length ≤ n + 1
    unfold dpK
    split
    · omega
    · simp; omega
theorem dcF_keys (kf : Nat → Key) (f : Nat → D) : ∀ n, ∀ k ∈ (dcF kf f n).1, ∃ i, i < n ∧ k = kf i
  | 0, k, h => by cases h
  | n + 1, k, h => by
    have h : k ∈ dpK (dcF kf f n).1 (kf n) := h
    unfold dpK at h
    split at h
    · obtain ⟨i, h1, h2⟩ := dcF_keys kf f n k h
      exact ⟨i, by omega, h2⟩
    · rcases List.mem_append.mp h with h | h
      · obtain ⟨i, h1, h2⟩ := dcF_keys kf f n k h
        exact ⟨i, by omega, h2⟩
      · exact ⟨n, by omega, by simpa using h⟩
/-- the keys all different -/
theorem dcF_inj {kf : Nat → Key} {f : Nat → D} : ∀ {n : Nat}, (∀ i j, i < j → j < n → kf i ≠ kf j) → dcF kf f n = ((List.range n).map kf, (List.range n).map f)
  | 0, _ => rfl
  | n + 1, h => by
    have ih := dcF_inj (f := f) (n := n) fun i j h1 h2 => h i j h1 (by omega)
    have hm : ¬ memK (kf n) (dcF kf f n).1 = true := fun z => by
      obtain ⟨i, h1, h2⟩ := dcF_keys kf f n _ (memK_iff.mp z)
      exact h i n h1 (by omega) h2.symm
    show (dpK _ _, dpV _ _ _ _) = _
    unfold dpK dpV
    rw [if_neg hm, if_neg hm, ih, List.range_succ, List.map_append, List.map_append]
    rfl
/-- what the block asks -/
def Pure1 (X : Cx) (scope : Scope) (e : Expr) (s : S) (d : D) : Prop := ∀ Y F, IsBlk X scope Y → JE Y F e s fun y s3 => y = .d d ∧ s3 = s
def S.dblk (s : S) (vs : List Nat) (j : Nat) (v : E) : S := ((s.wipe vs).set j v).in
def DcI (X : Cx) (F : Fr) (tg iter kx vx : Expr) (scope : Scope) (vs : List Nat) (j : Nat) (s : S) (Φ : List Key → List D → Prop) : Prop :=
  JI X F tg iter s fun n it s1 => s1 = s ∧ n ≤ 16000000 ∧ ∃ (kf : Nat → Key) (f : Nat → D), (∀ i v, i < n → it i v → Pure1 X scope kx (s.dblk vs j v) (kD (kf i)) ∧ Pure1 X scope vx (s.dblk vs j v) (f i)) ∧ Φ (dcF kf f n).1 (dcF kf f n).2
theorem rep_kV {K : PySem.W.Frag} {G : Hp} {v : V} : ∀ {k : Key}, Rep K G v (kD k) → v = kV k
  | .inl i, h => by cases h; rfl
  | .inr x, h => by cases h; rfl
theorem dpV_map {α β : Type} (g : α → β) {ks : List Key} {es : List α} {k : Key} {e : α} : dpV ks (es.map g) k (g e) = (dpV ks es k e).map g := by
  unfold dpV
  split
  · rename_i h
    clear h
    induction ks generalizing es with
    | nil => rfl
    | cons k' ks ih =>
      cases es with
      | nil => rfl
      | cons a es =>
        rw [List.map_cons, List.zip_cons_cons, List.zip_cons_cons, List.map_cons, List.map_cons, List.map_cons, ih]
        by_cases q : k' = k
        · simp only [q, if_true]
        · simp only [q, if_false]
  · rw [List.map_append]; rfl
theorem reps_dpV {K : PySem.W.Frag} {G : Hp} {k : Key} {v : V} {d : D} (r : Rep K G v d) {ks : List Key} {vs : List V} {ds : List D} (h : Reps K G vs ds) : Reps K G (dpV ks vs k v) (dpV ks ds k d) := by
  refine VEs.reps (as := []) ?_
  rw [← dpV_map]
  exact ves_dpV (as := []) (e := .d d) r (VEs.ofReps h)
theorem dc_read {Φ : List Key → List D → Prop} (hj : j ∈ own.map (·.2)) (h : DcI X F (.Name x p) iter kx vx scope (own.map (·.2)) j s Φ) :
    ∀ as G H σ (Q : VK), Cz X F as G H σ s → (∀ D as' G' H' vs ks ds, Cz X F as' G' H' σ s → Ext as as' G G' → H' D = some (.dK (ks.zip vs)) → G' D = none → D ∉ as' → F.H0 D = none → Reps X.K G' vs ds → ks.length = vs.length → ks.Nodup → Φ ks ds → Q (.ref D) H') →
      tDc (semI X (.Name x p) iter) (gName j) (ttB X scope []) (teB X scope kx) (teB X scope vx) (own.map (·.2)) σ H Q := by
  refine fun as G H σ Q c k => h as G H σ _ c fun J as1 G1 H1 s1 n it c1 x1 okJ ⟨q1, q2, kf, f, q3, q4⟩ => ?_
  subst q1
  intro D hD
  have gD := c1.gnone hD
  have nD := c1.notin hD
  have hD0 := c1.h0none hD
  -- the state of a turn
  have keep : ∀ {as' : List Addr} {G' H' : Hp} {σ' : L2.St} {s' : S} {o : HO}, Cz X F as' G' H' σ' s' → G' D = none → D ∉ as' → F.H0 D = none → Cz X F as' G' (upd H' D o) σ' s' := fun {as' G' H' σ' s' o} c' g' n' h0 => by
    refine ⟨fun b u q => ?_, c'.base, c'.new, fun b u w1 w2 => ?_, c'.len, c'.pre, c'.nd, c'.own, c'.fresh, fun a ha => ?_, fun l kd es q => ?_, c'.slots, c'.slen, c'.har⟩
    · rw [upd_ne (ne_of_none q g')]; exact c'.sub b u q
    · rw [upd_ne (ne_of_none w1 h0)]; exact c'.frame b u w1 w2
    · rw [upd_ne (fun z => n' (by rw [← z]; exact ha))]; exact c'.there a ha
    · obtain ⟨a, ws, w1, w2, w3⟩ := c'.cells l kd es q
      exact ⟨a, ws, w1, w2.keep fun u z => by rw [upd_ne (fun z => n' (by rw [← z]; exact List.mem_of_getElem? w1))]; exact z, w3⟩
  have c1' := keep (o := .dK []) (c1.wipe (own.map (·.2))) gD nD hD0
  refine ⟨fun i m H' => m = n - i ∧ i ≤ n ∧ ∃ as' G' vs, Cz X F as' G' H' (wipe σ (own.map (·.2))) (s1.wipe (own.map (·.2))) ∧ Ext as1 as' G1 G' ∧ H' D = some (.dK ((dcF kf f i).1.zip vs)) ∧ G' D = none ∧ D ∉ as' ∧ Reps X.K G' vs (dcF kf f i).2, ⟨n, by simp, Nat.zero_le _, as1, G1, [], c1', Ext.refl _ _, upd_same, gD, nD, .nil⟩, ?_⟩
  rintro i m H' ⟨rfl, hi, as', G', vs, c', x', hd, g', n', rs⟩
  by_cases hlt : i < n
  · refine .inr ⟨okJ.go i as' G' H' _ _ hlt c' x'.sub, fun H2 => ∃ as' G' vs, Cz X F as' G' H2 (wipe σ (own.map (·.2))) (s1.wipe (own.map (·.2))) ∧ Ext as1 as' G1 G' ∧ H2 D = some (.dK ((dcF kf f (i + 1)).1.zip vs)) ∧ G' D = none ∧ D ∉ as' ∧ Reps X.K G' vs (dcF kf f (i + 1)).2, fun H2 ⟨as2, G2, vs2, w⟩ => ⟨n - (i + 1), by omega, rfl, hlt, as2, G2, vs2, w⟩, fun v H2 y => ?_⟩
    obtain ⟨G2, e, c2, ⟨x2, gk⟩, ve, hv⟩ := okJ.yld i as' G' H' _ _ v H2 hlt c' x'.sub y
    have hd2 : H2 D = _ := okJ.keep i as' G' H' _ _ v H2 hlt c' x'.sub y D _ hd
    have g2 : G2 D = none := gk D (by rw [hd]; exact fun z => nomatch z) g'
    obtain ⟨t1, t2⟩ := q3 i e hlt hv
    have c3 := c2.set (i := j) ve
    have ws : wipe ((wipe σ (own.map (·.2))).set j (some v)) (own.map (·.2)) = wipe σ (own.map (·.2)) := wipe_same (by rw [List.length_set, wipe_length]) fun l hl => by
      rw [List.getElem?_set_ne (fun z => hl (by rw [← z]; exact hj)), wipe_out' hl]
    refine ⟨ws, fun Y hY pins st I => pts_nil.run pins st _ _ _ I ?_⟩
    simp only [if_true]
    have c4 := c3.enter
    refine fun Y2 hY2 => t1 Y2 _ hY2 as' G2 H2 _ _ (cz_blk hY2 c4) fun y as5 G5 H5 y' s5 c5 x5 ve5 ⟨w1, w2⟩ => ?_
    subst w1 w2
    have ve5 := rep_kV ve5
    subst ve5
    have c5 := cz_ublk hY2 c5
    have g5 : G5 D = none := c5.new D g2 (by show H2 D ≠ none; rw [hd2]; exact fun z => nomatch z)
    have d5 : H5 D = _ := c5.frame D _ hd2 n'
    have n5 : D ∉ as5 := fun z => by
      rcases c5.fresh D z with z | z
      · exact n' z
      · rw [show H2 D = none from z] at hd2; cases hd2
    have c5 := c3.leave c5
    refine fun Y3 hY3 => t2 Y3 _ hY3 as5 G5 H5 _ _ (cz_blk hY3 c5.enter) fun y as6 G6 H6 y' s6 c6 x6 ve6 ⟨w1, w2⟩ => ?_
    subst w1 w2
    have ve6 : Rep Y3.K G6 y (f i) := ve6
    rw [hY3.K] at ve6
    have c6 := cz_ublk hY3 c6
    have g6 : G6 D = none := c6.new D g5 (by show H5 D ≠ none; rw [d5]; exact fun z => nomatch z)
    have d6 : H6 D = _ := c6.frame D _ d5 n5
    have n6 : D ∉ as6 := fun z => by
      rcases c6.fresh D z with z | z
      · exact n5 z
      · rw [show H5 D = none from z] at d5; cases d5
    have c6 := (c5.leave c6).wipe (own.map (·.2))
    rw [ws] at c6
    have es : (S.wipe ⟨(s1.dblk (own.map (·.2)) j e).sl, (s1.dblk (own.map (·.2)) j e).ce, s1.ar⟩ (own.map (·.2))) = s1.wipe (own.map (·.2)) := by
      show (((s1.wipe (own.map (·.2))).set j e).wipe (own.map (·.2))) = _
      rw [set_wipe hj, wipe_wipe]
    have c6 : Cz X F as6 G6 H6 (wipe σ (own.map (·.2))) (s1.wipe (own.map (·.2))) := es ▸ c6
    obtain ⟨l1, l2, l3⟩ := dcF_ok kf f i
    have ll : (dcF kf f i).1.length = vs.length := by rw [l1, rs.length]
    refine ⟨_, kf i, rfl, d6, ?_, as6, G6, dpV (dcF kf f i).1 vs (kf i) y, keep c6 g6 n6 hD0, ?_, ?_, g6, n6, ?_⟩
    · rw [List.length_zip, ← ll, Nat.min_self, sizeLine_eq]; omega
    · exact (x'.trans ⟨List.prefix_refl _, x2⟩).trans (x5.trans x6)
    · rw [upd_same, putK_zip ll]; rfl
    · exact reps_dpV ve6 (rs.mono ((x2.trans x5.sub).trans x6.sub))
  · have e : i = n := by omega
    subst e
    obtain ⟨l1, l2, l3⟩ := dcF_ok kf f i
    exact .inl ⟨okJ.stop as' G' H' _ _ c' x'.sub, k D as' G' H' vs _ _ (show Cz X F as' G' H' σ ⟨s1.sl, (s1.wipe (own.map (·.2))).ce, s1.ar⟩ from c1.back c' x') (x1.trans x') hd g' n' hD0 rs (by rw [l1, rs.length]) l2 q4⟩
/-- a dict laid now is locked and frozen -/
theorem lay_dct {as : List Addr} {G H : Hp} {σ : L2.St} {D : Addr} {ks : List Key} {vs : List V} {od : Obj} (c : Cz X F as G H σ s) (gD : G D = none) (nD : D ∉ as) (h0 : F.H0 D = none) : Cz X F as G (upd H D (.frz od (.dK (ks.zip vs)))) σ s := by
    refine ⟨fun b u q => ?_, c.base, c.new, fun b u w1 w2 => ?_, c.len, c.pre, c.nd, c.own, c.fresh, fun a ha => ?_, fun l kd es q => ?_, c.slots, c.slen, c.har⟩
    · rw [upd_ne (ne_of_none q gD)]; exact c.sub b u q
    · rw [upd_ne (ne_of_none w1 h0)]; exact c.frame b u w1 w2
    · rw [upd_ne (fun z => nD (by rw [← z]; exact ha))]; exact c.there a ha
    · obtain ⟨a, ws, w1, w2, w3⟩ := c.cells l kd es q
      exact ⟨a, ws, w1, w2.keep fun u z => by rw [upd_ne (fun z => nD (by rw [← z]; exact List.mem_of_getElem? w1))]; exact z, w3⟩
theorem frz_dct {as : List Addr} {G H : Hp} {σ : L2.St} {D : Addr} {ks : List Key} {vs : List V} {ds : List DL.D} {od : Obj} (c : Cz X F as G H σ s) (gD : G D = none) (nD : D ∉ as) (h0 : F.H0 D = none) (rs : Reps X.K G vs ds) (l : ks.length = vs.length) (nd : ks.Nodup) :
    Cz X F as (upd G D (.frz od (.dK (ks.zip vs)))) (upd H D (.frz od (.dK (ks.zip vs)))) σ s ∧ Same G (upd G D (.frz od (.dK (ks.zip vs)))) ∧ Rep X.K (upd G D (.frz od (.dK (ks.zip vs)))) (.ref D) (.nd (.dct ks) ds) := by
  have sg : Same G (upd G D (.frz od (.dK (ks.zip vs)))) := same_new gD
  exact ⟨(lay_dct c gD nD h0).frzG upd_same gD nD h0, sg, .nd ⟨l, nd, od, upd_same⟩ (rs.mono sg)⟩
/-- {k: v for x in iter}, pure: the dict, frozen -/
theorem je_dcP (bx : Bx X B) (ok : BlkOk X.N X.env.scope scope own) (hj : j ∈ own.map (·.2)) (hn : ∀ Y, IsBlk X scope Y → NmW Y j x)
    (h : DcI X F (.Name x p) iter kx vx scope (own.map (·.2)) j s fun ks ds => Φ (.d (.nd (.dct ks) ds)) s)
    (hs : ∀ x, foldedSetIterable iter X.env x = pure x := by intro _; rfl) : JE X F (.DictComp kx vx [⟨.Name x p, iter, [], 0⟩] scope pos) s Φ := fun as G H σ Q c k =>
  sem_lock (PE.sem (pe_dc bx.calm bx.nd (pi_sem X _ iter) ok (pg_B hn) pts_B pe_B pe_B hs) (dc_read hj h as G H σ _ c fun D as' G' H' vs ks ds c' x' hd gD nD h0 rs l nd q =>
    ⟨D, _, hd, trivial, fun od => by
      obtain ⟨c2, sg, rep⟩ := frz_dct (od := od) c' gD nD h0 rs l nd
      exact k _ as' _ _ _ s c2 (x'.trans ⟨List.prefix_refl _, sg⟩) rep q⟩))
theorem ps_setDc {i : Nat} {y : Str} {py : Pos} {kx vx tg iter : Expr} {ifs : List Expr} {scope : Scope} {own : List (Str × Nat)} {pos spos : Pos} {wi : TI} {g : TG} {tt : TT} {tk tv : TE} (hc : X.calm = true) (hN : X.N.Nodup) (hy : X.N[i]? = some y) (hyl : X.env.scope.names.lookup y = some .local)
    (hsw : swapsWith (.DictComp kx vx [⟨tg, iter, ifs, 0⟩] scope pos) (some (.Name y py)) spos.line X.env = pure true) (hi : PI X tg iter wi) (ok : BlkOk X.N X.env.scope scope own)
    (hg : ∀ (s : Shared) (H : Hp) (C : Addr) (cl : List (Str × Addr)) (fp : List Addr), PG (X.blk s H scope (compEnvC scope cl C X.env) fp) tg g) (ht : ∀ (s : Shared) (H : Hp) (C : Addr) (cl : List (Str × Addr)) (fp : List Addr), PTs (X.blk s H scope (compEnvC scope cl C X.env) fp) ifs tt)
    (hk : ∀ (s : Shared) (H : Hp) (C : Addr) (cl : List (Str × Addr)) (fp : List Addr), PE (X.blk s H scope (compEnvC scope cl C X.env) fp) kx tk)
    (he : ∀ (s : Shared) (H : Hp) (C : Addr) (cl : List (Str × Addr)) (fp : List Addr), PE (X.blk s H scope (compEnvC scope cl C X.env) fp) vx tv) (hs : ∀ x, foldedSetIterable iter X.env x = pure x := by intro _; rfl) :
    PS X (.Assign [.Name y py] (.DictComp kx vx [⟨tg, iter, ifs, 0⟩] scope pos) spos) (fun D σ H => tDc wi g tt tk tv (own.map (·.2)) σ H fun v H' => ∃ d u, H' d = some u ∧ Mut (some u) ∧ ∀ od, gName i v σ (upd H' d (.frz od u)) D.nx) := by
  refine ⟨fun pins s σ H D I h => ?_⟩
  rw [exec_Assign_Name_used _ _ _ _ hsw]
  refine wpAny_bind (wpAny_standAt (wpAny_bind ?_))
  show wpAny _ X.A (do let _ ← comprehension (.DictComp kx vx [⟨tg, iter, ifs, 0⟩] scope pos) scope X.env (firstIterPos [⟨tg, iter, ifs, 0⟩] pos) newDict false (eval iter X.env) (some (assign (.Name y py) X.env))) _ _ s
  refine wpAny_bind (thn (dc_core (Qf := fun _ s' => SP X pins D .next s') hc hN I hi ok hg ht hk he hs h fun L C s' m H' I' q hn f => ?_) fun _ s' hq => wpAny_pure (wpAny_pure hq))
  show wpAny _ _ (assign (.Name y py) X.env (.ref L)) _ _ _
  obtain ⟨d, u, hd, mu, q⟩ := q
  obtain ⟨od, I''⟩ := I'.lock hd mu
  refine wpAny_assign_Name (store_ok2 (v := V.ref L) I'' hN hy (.inl hyl) rfl (fun s2 I2 ⟨a, sb, ha⟩ => ?_) (.inr hyl))
  obtain ⟨f0, f1, f2, f3, f4, f5⟩ := f
  have f0 : upd H' d (.frz od u) C = none := by rw [upd_ne (fun z => by rw [z, hd] at f0; cases f0)]; exact f0
  have haC : C ≠ a := by
    rcases ha with z | z
    · rw [z]; exact f1
    · exact fun e => f4 y a z e.symm
  refine ⟨m, hn.sameBut sb haC, fun h3 sb3 => ?_⟩
  exact ⟨_, _, I2.turned (t' := s2.toks) (fun b o hb e => (sb3.2 b hb).trans e) f0 f1 f3 f4 f5, q od⟩
/-- name = {..} on one line -/
theorem js_setDcP {i : Nat} {y : Str} {py spos : Pos} {P : Po} (bx : Bx X B) (ny : NmW X i y) (ly : X.env.scope.names.lookup y = some .local) (hsw : swapsWith (.DictComp kx vx [⟨.Name x p, iter, [], 0⟩] scope pos) (some (.Name y py)) spos.line X.env = pure true)
    (ok : BlkOk X.N X.env.scope scope own) (hj : j ∈ own.map (·.2)) (hn : ∀ Y, IsBlk X scope Y → NmW Y j x)
    (h : DcI X F (.Name x p) iter kx vx scope (own.map (·.2)) j s fun ks ds => P.nx (s.set i (.d (.nd (.dct ks) ds))))
    (hs : ∀ x, foldedSetIterable iter X.env x = pure x := by intro _; rfl) : JS X F (.Assign [.Name y py] (.DictComp kx vx [⟨.Name x p, iter, [], 0⟩] scope pos) spos) s P := fun as G H σ D c k =>
  PS.sem (ps_setDc bx.calm bx.nd ny.nm ly hsw (pi_sem X _ iter) ok (pg_B hn) pts_B pe_B pe_B hs) (dc_read hj h as G H σ _ c fun d as' G' H' vs ks ds c' x' hd gD nD h0 rs l nd q =>
    ⟨d, _, hd, trivial, fun od => by
      obtain ⟨c2, sg, rep⟩ := frz_dct (od := od) c' gD nD h0 rs l nd
      exact k.nx as' _ _ _ _ (c2.set (i := i) (v := .ref d) (e := .d (.nd (.dct ks) ds)) rep) (x'.sub.trans sg) q⟩)
/-- .. owned -/
theorem js_setDcO {i : Nat} {y : Str} {py spos : Pos} {P : Po} (bx : Bx X B) (ny : NmW X i y) (ly : X.env.scope.names.lookup y = some .local) (hsw : swapsWith (.DictComp kx vx [⟨.Name x p, iter, [], 0⟩] scope pos) (some (.Name y py)) spos.line X.env = pure true)
    (ok : BlkOk X.N X.env.scope scope own) (hj : j ∈ own.map (·.2)) (hn : ∀ Y, IsBlk X scope Y → NmW Y j x)
    (h : DcI X F (.Name x p) iter kx vx scope (own.map (·.2)) j s fun ks ds => P.nx ((s.push (.dct ks) (ds.map .d)).set i (.r s.ce.length)))
    (hs : ∀ x, foldedSetIterable iter X.env x = pure x := by intro _; rfl) : JS X F (.Assign [.Name y py] (.DictComp kx vx [⟨.Name x p, iter, [], 0⟩] scope pos) spos) s P := fun as G H σ D c k =>
  PS.sem (ps_setDc bx.calm bx.nd ny.nm ly hsw (pi_sem X _ iter) ok (pg_B hn) pts_B pe_B pe_B hs) (dc_read hj h as G H σ _ c fun d as' G' H' vs ks ds c' x' hd gD nD h0 rs l nd q =>
    ⟨d, _, hd, trivial, fun od => by
      have c2 := (lay_dct (ks := ks) (vs := vs) (od := od) c' gD nD h0).grow (kd := .dct ks) gD nD h0 ⟨l, nd, od, upd_same⟩ (VEs.ofReps rs)
      exact k.nx _ _ _ _ _ (c2.set (i := i) (v := .ref d) (e := .r s.ce.length) ⟨d, by rw [← c'.len, List.getElem?_append_right (Nat.le_refl _)]; simp, rfl⟩) x'.sub q⟩)
end
theorem jo_none {Φ : Option Int → S → Prop} (h : Φ none s) : JO X F none s Φ := h
theorem jo_some {e : Expr} {Φ : Option Int → S → Prop} (h : JE X F e s fun e1 s1 => ∃ i, e1 = .d (.int i) ∧ Φ (some i) s1) : JO X F (some e) s Φ := h
end DL
namespace DL
open PySem PySem.Spec PyProof.Rows L2
variable {X : Cx} {F : Fr} {s : S}
/-! ### a block's scope, by looking -/
def blkB (N : List Str) (sc scope : Scope) (own : List (Str × Nat)) : Bool :=
  decide (scope.kind = .function) && scope.names.all (fun y => decide (scope.names.lookup y.1 = some y.2)) && own.all (fun p => decide (N[p.2]? = some p.1))
    && scope.names.all (fun y => decide (y.2 = .free → (sc.names.lookup y.1 = some .cell ∨ sc.names.lookup y.1 = some .free)))
    && scope.names.all (fun y => decide ((y.2 = .local ∨ y.2 = .cell) → (y.1 ∈ own.map (·.1) ∨ y.1 ∉ N)))
theorem blk_ok {P : Program} {w : World} {K : PySem.W.Frag} {mg : Str → Option Value} {base : Heap} {N : List Str} {sc scope : Scope} {k : Nat} {own : List (Str × Nat)} (hX : XIs X P w K mg base N sc k) (h : blkB N sc scope own = true) : BlkOk X.N X.env.scope scope own := by
  rw [hX.eN, hX.eS]
  unfold blkB at h
  simp only [Bool.and_eq_true, List.all_eq_true, decide_eq_true_eq] at h
  obtain ⟨⟨⟨⟨h1, h2⟩, h3⟩, h4⟩, h5⟩ := h
  exact ⟨h1, h2, h3, h4, h5⟩
/-! ### keys and what stands there -/
theorem lk_get {α : Type} : ∀ {ks : List Key} {es : List α} {i : Nat} {k : Key} {e : α}, ks.Nodup → ks[i]? = some k → es[i]? = some e → lk (ks.zip es) k = some e
  | [], _, _, _, _, _, h, _ => by simp at h
  | k' :: ks, [], _, _, _, _, _, h => by simp at h
  | k' :: ks, e' :: es, 0, k, e, _, h1, h2 => by
    simp at h1 h2
    subst h1 h2
    simp [lk]
  | k' :: ks, e' :: es, i + 1, k, e, hn, h1, h2 => by
    simp at h1 h2
    have hk : k ∈ ks := List.mem_of_getElem? h1
    have hne : k' ≠ k := fun z => (List.nodup_cons.mp hn).1 (z ▸ hk)
    have := lk_get (List.nodup_cons.mp hn).2 h1 h2
    unfold lk at this ⊢
    rw [List.zip_cons_cons, List.find?_cons_of_neg (by simp [hne])]
    exact this
theorem lk_map {α β : Type} {f : α → β} {k : Key} : ∀ {ks : List Key} {es : List α}, lk (ks.zip (es.map f)) k = (lk (ks.zip es) k).map f
  | [], es => by simp [lk]
  | _ :: _, [] => by simp [lk]
  | k' :: ks, e :: es => by
    have ih := lk_map (f := f) (k := k) (ks := ks) (es := es)
    unfold lk at ih ⊢
    rw [List.map_cons, List.zip_cons_cons, List.zip_cons_cons]
    by_cases h : k' = k
    · rw [List.find?_cons_of_pos (by simp [h]), List.find?_cons_of_pos (by simp [h])]; rfl
    · rw [List.find?_cons_of_neg (by simp [h]), List.find?_cons_of_neg (by simp [h])]; exact ih
theorem memK_get {ks : List Key} {i : Nat} {k : Key} (h : ks[i]? = some k) : memK k ks = true := memK_iff.mpr (List.mem_of_getElem? h)
theorem memK_not {ks : List Key} {k : Key} (h : k ∉ ks) : ¬ memK k ks = true := fun z => h (memK_iff.mp z)
theorem dpK_new {ks : List Key} {k : Key} (h : k ∉ ks) : dpK ks k = ks ++ [k] := if_neg (memK_not h)
theorem dpV_new {α : Type} {ks : List Key} {es : List α} {k : Key} {e : α} (h : k ∉ ks) : dpV ks es k e = es ++ [e] := if_neg (memK_not h)
theorem dpK_old {ks : List Key} {k : Key} (h : k ∈ ks) : dpK ks k = ks := if_pos (memK_iff.mpr h)
theorem zip_same {α : Type} {k : Key} {e : α} : ∀ {ks : List Key} {es : List α}, k ∉ ks → ks.length = es.length → (ks.zip es).map (fun q => if q.1 = k then e else q.2) = es
  | [], [], _, _ => rfl
  | [], _ :: _, _, h => by simp at h
  | _ :: _, [], _, h => by simp at h
  | a :: ks, b :: es, hk, h => by
    simp only [List.mem_cons, not_or] at hk
    rw [List.zip_cons_cons, List.map_cons, zip_same hk.2 (by simpa using h), if_neg (fun z => hk.1 z.symm)]
theorem dpV_get {α : Type} : ∀ {ks : List Key} {es : List α} {i : Nat} {k : Key} {e : α}, ks.Nodup → ks[i]? = some k → ks.length = es.length → dpV ks es k e = es.set i e
  | [], _, _, _, _, _, h, _ => by simp at h
  | k' :: ks, [], _, _, _, _, _, h => by simp at h
  | k' :: ks, e' :: es, 0, k, e, hn, h1, h2 => by
    simp at h1
    subst h1
    have hk : k' ∉ ks := (List.nodup_cons.mp hn).1
    unfold dpV
    rw [if_pos (memK_iff.mpr List.mem_cons_self)]
    simp only [List.zip_cons_cons, List.map_cons, if_true, List.set_cons_zero, List.cons.injEq, true_and]
    exact zip_same hk (by simpa using h2)
  | k' :: ks, e' :: es, i + 1, k, e, hn, h1, h2 => by
    simp at h1
    have hk : k ∈ ks := List.mem_of_getElem? h1
    have hne : k' ≠ k := fun z => (List.nodup_cons.mp hn).1 (z ▸ hk)
    have ih := dpV_get (e := e) (List.nodup_cons.mp hn).2 h1 (by simpa using h2)
    unfold dpV at ih ⊢
    rw [if_pos (memK_iff.mpr hk)] at ih
    rw [if_pos (memK_iff.mpr (List.mem_cons_of_mem _ hk)), List.zip_cons_cons, List.map_cons, ih, if_neg hne, List.set_cons_succ]
theorem nodup_get {α : Type} {l : List α} {i j : Nat} {a : α} (h : l.Nodup) (h1 : l[i]? = some a) (h2 : l[j]? = some a) : i = j := by
  obtain ⟨l1, e1⟩ := List.getElem?_eq_some_iff.mp h1
  obtain ⟨l2, e2⟩ := List.getElem?_eq_some_iff.mp h2
  exact (List.getElem_inj h).mp (e1.trans e2.symm)
theorem notin_take {α : Type} {l : List α} {i : Nat} {a : α} (h : l.Nodup) (h1 : l[i]? = some a) : a ∉ l.take i := fun z => by
  obtain ⟨j, hj⟩ := List.getElem?_of_mem z
  have hl := (List.getElem?_eq_some_iff.mp hj).1
  rw [List.length_take] at hl
  rw [List.getElem?_take_of_lt (by omega)] at hj
  have := nodup_get h h1 hj
  omega
theorem take_snoc {α : Type} {l : List α} {i : Nat} {a : α} (h : l[i]? = some a) : l.take i ++ [a] = l.take (i + 1) := by
  rw [List.take_add_one, h]; rfl
theorem nodup_inr {ks : List Str} (h : ks.Nodup) : (ks.map (Sum.inr : Str → Key)).Nodup := by
  induction ks with
  | nil => exact List.nodup_nil
  | cons a ks ih =>
    rw [List.map_cons, List.nodup_cons]
    refine ⟨fun z => ?_, ih (List.nodup_cons.mp h).2⟩
    obtain ⟨b, h1, h2⟩ := List.mem_map.mp z
    cases h2
    exact (List.nodup_cons.mp h).1 h1
theorem notin_inr {ks : List Str} {x : Str} (h : x ∉ ks) : (Sum.inr x : Key) ∉ ks.map Sum.inr := fun z => by
  obtain ⟨b, h1, h2⟩ := List.mem_map.mp z
  cases h2
  exact h h1
/-! ### name = [..] on one line, pure -/
section
variable {elt iter : Expr} {scope : Scope} {own : List (Str × Nat)} {pos p : Pos} {x : Str} {j B : Nat}
theorem js_setLcP {i : Nat} {y : Str} {py spos : Pos} {P : Po} (bx : Bx X B) (ny : NmW X i y) (ly : X.env.scope.names.lookup y = some .local) (hsw : swapsWith (.ListComp elt [⟨.Name x p, iter, [], 0⟩] scope pos) (some (.Name y py)) spos.line X.env = pure true)
    (ok : BlkOk X.N X.env.scope scope own) (hj : j ∈ own.map (·.2)) (hn : ∀ Y, IsBlk X scope Y → NmW Y j x)
    (h : JI X F (.Name x p) iter s fun n it s1 => s1 = s ∧ n ≤ 16000000 ∧ ∃ f : Nat → D, (∀ i v acc, i < n → it i v → ∀ Y, IsBlk X scope Y → JE Y F elt (s.blk (own.map (·.2)) acc j v) fun y s3 => y = .d (f i) ∧ s3 = s.blk (own.map (·.2)) acc j v) ∧ P.nx (s.set i (.d (.nd .lst ((List.range n).map f)))))
    (hs : ∀ x, foldedSetIterable iter X.env x = pure x := by intro _; rfl) : JS X F (.Assign [.Name y py] (.ListComp elt [⟨.Name x p, iter, [], 0⟩] scope pos) spos) s P := fun as G H σ D c k =>
  PS.sem (ps_setLc bx.calm bx.nd ny.nm ly hsw (pi_sem X _ iter) ok (pg_B hn) pts_B pe_B hs) (lc_read (Φ := fun e1 s1 => ∃ ds, e1 = .r s.ce.length ∧ s1 = s.push .lst (ds.map .d) ∧ P.nx (s.set i (.d (.nd .lst ds)))) hj
    (fun as G H σ R c k => h as G H σ R c fun J as1 G1 H1 s1 n it c1 x1 okJ ⟨q1, q2, f, q3, q4⟩ => by
      subst q1
      refine k J as1 G1 H1 s1 n it c1 x1 okJ ⟨_, (lc_pure hj q2 q3).1, (lc_pure hj q2 q3).2, ?_⟩
      rintro acc s' ⟨rfl, rfl⟩
      exact ⟨_, rfl, rfl, q4⟩) as G H σ _ c fun v as1 G1 H1 e1 s1 c1 x1 ve ⟨ds, q1, q2, q3⟩ => by
    subst q1 q2
    obtain ⟨G2, c2, sg, rep⟩ := c.popFrz c1 x1
    obtain ⟨q, hq, rfl⟩ := ve
    exact k.nx as G2 H1 _ _ (c2.set (i := i) (e := .d (.nd .lst ds)) (rep q hq)) (x1.sub.trans sg) q3)
end
theorem XIs.gcS {P : Program} {w : World} {K : PySem.W.Frag} {mg : Str → Option Value} {base : Heap} {N : List Str} {sc : Scope} {k : Nat} {x z : Str} (hX : XIs X P w K mg base N sc k) (h : sc.names.lookup x = some .globalImplicit) (hm : ∃ u, mg x = some u ∧ RelV (.str z) u) (hd : (x == ("__debug__" : Str)) = false := by decide) : Gc X x (.str z) :=
  ⟨hX.gl h, let ⟨u, h1, h2⟩ := hm; ⟨.str z, u, by rw [hX.eM]; exact h1, h2, .str z⟩, hd⟩
theorem XIs.gcI {P : Program} {w : World} {K : PySem.W.Frag} {mg : Str → Option Value} {base : Heap} {N : List Str} {sc : Scope} {k : Nat} {x : Str} {i : Int} (hX : XIs X P w K mg base N sc k) (h : sc.names.lookup x = some .globalImplicit) (hm : ∃ u, mg x = some u ∧ RelV (.int i) u) (hd : (x == ("__debug__" : Str)) = false := by decide) : Gc X x (.int i) :=
  ⟨hX.gl h, let ⟨u, h1, h2⟩ := hm; ⟨.int i, u, by rw [hX.eM]; exact h1, h2, .int i⟩, hd⟩
/-- o[i] = v, o an owned list or an owned dict -/
theorem jg_setX {B : Nat} {o i : Expr} {v : E} {Φ : S → Prop} {p : Pos} (bx : Bx X B) (hH : X.H_0 = F.H0) (h : JE X F o s fun eo s1 => JE X F i s1 fun ei s2 =>
      (∃ k n es j, eo = .r k ∧ ei = .d (.int n) ∧ nth s2.ce k = some (.nd .lst es) ∧ ixN es.length n = some j ∧ Φ (s2.put k .lst (es.set j v))) ∨
      (∃ k ks es kk, eo = .r k ∧ keyE ei = some kk ∧ nth s2.ce k = some (.nd (.dct ks) es) ∧ s2.ar ≤ k ∧ es.length < sizeLine ∧ Φ (s2.put k (.dct (dpK ks kk)) (dpV ks es kk v))))
    (ha : ∀ v, assign (.Subscript o i p) X.env v = (do
      let ov ← holding [v] (eval o X.env)
      let iv ← holding [v, ov] (eval i X.env)
      standAt p
      holding [v, ov, iv] (setItem ov iv v)
      release [v, ov, iv] []) := by intro _; rfl) : JG X F (.Subscript o i p) v s Φ :=
  fun as G H σ u Q c ve k => PG.sem (pg_sub (t := fun a b c H Q => rSetL a b c H Q ∨ _) (pe_sem X o) (pe_sem X i) (fun pins st σ H o i v ov iv u Q I ro ri rv h => h.elim (set_list pins st σ H o i v ov iv u Q I ro ri rv) (set_dictZ bx.hu pins st σ H o i v ov iv u Q I ro ri rv)) ha) (h as G H σ _ c fun v1 as1 G1 H1 e1 s1 c1 x1 ve1 h1 => h1 as1 G1 H1 σ _ c1 fun v2 as2 G2 H2 e2 s2 c2 x2 ve2 hq => by
    rcases hq with ⟨kk, n, es, j, q1, q2, q3, q4, q5⟩ | ⟨j, ks, es, kk, q1, q2, q3, q4, q5, q6⟩
    · refine .inl ?_
      subst q1 q2
      cases ve2
      obtain ⟨a, ha, rfl⟩ := x2.ve ve1
      rw [nth_eq] at q3
      obtain ⟨a', vs, g1, g2, g3⟩ := c2.cells kk _ _ q3
      rw [ha] at g1
      cases g1
      have g2' : H2 a = some (.lst vs) := g2
      have hl := Paired.length g3
      refine ⟨a, vs, n, j, rfl, rfl, g2', by rw [hl]; exact q4, ?_⟩
      have vu := (x1.trans x2).ve ve
      have hv : VEs X.K G2 as2 (vs.set j u) (es.set j v) := by
        clear q4 q5 g2' g2 hl q3
        induction g3 generalizing j with
        | nil => exact .nil
        | cons r t ih =>
          cases j with
          | zero => exact .cons vu t
          | succ j => exact .cons r (ih j)
      exact k as2 G2 _ σ _ (c2.put (kd := .lst) q3 ha upd_same hv) (x1.trans x2) q5
    · refine .inr ?_
      subst q1
      obtain rfl := keyE_v q2 ve2
      obtain ⟨a, ha, rfl⟩ := x2.ve ve1
      rw [nth_eq] at q3
      obtain ⟨a', vs, g1, ⟨g2, g3, od, g4⟩, g5⟩ := c2.cells j _ _ q3
      rw [ha] at g1
      cases g1
      have hl := Paired.length g5
      have nA : a ∉ F.A0 := fun z => by
        obtain ⟨l, hl⟩ := List.getElem?_of_mem z
        have q := pre_get c2.pre hl
        obtain ⟨l1, e1⟩ := List.getElem?_eq_some_iff.mp q
        obtain ⟨l2, e2⟩ := List.getElem?_eq_some_iff.mp ha
        have := (List.getElem_inj c2.nd).mp (e1.trans e2.symm)
        have l3 := (List.getElem?_eq_some_iff.mp hl).1
        rw [c2.har] at l3
        omega
      have h0 : F.H0 a = none := (c2.fresh a (List.mem_of_getElem? ha)).resolve_left nA
      refine ⟨a, od, _, kk, rfl, rfl, g4, fun o' u' z => (by rw [hH, h0] at z; cases z), by rw [List.length_zip, g2, Nat.min_self, hl]; exact q5, fun od' => ?_⟩
      rw [putK_zip g2]
      exact k as2 G2 _ σ _ (c2.put (kd := .dct (dpK ks kk)) q3 ha ⟨dpV_len g2, dpK_nodup g3, od', upd_same⟩ (ves_dpV ((x1.trans x2).ve ve) g5)) (x1.trans x2) q6)
theorem range_getD {α β : Type} (g : α → β) (d : α) (ys : List α) : (List.range ys.length).map (fun i => g (ys.getD i d)) = ys.map g := by
  apply List.ext_getElem?
  intro i
  rw [List.getElem?_map, List.getElem?_map]
  by_cases h : i < ys.length
  · rw [List.getElem?_range h, List.getElem?_eq_getElem h]
    simp [List.getD, List.getElem?_eq_getElem h]
  · rw [List.getElem?_eq_none (by simpa using h), List.getElem?_eq_none (by omega)]
    rfl
theorem dcF_getD {α : Type} {g : α → Key} {f : α → D} {d : α} {ys : List α} (h : (ys.map g).Nodup) : dcF (fun i => g (ys.getD i d)) (fun i => f (ys.getD i d)) ys.length = (ys.map g, ys.map f) := by
  rw [dcF_inj, range_getD, range_getD]
  intro i j hij hj e
  have hi : i < ys.length := by omega
  have h1 : (ys.map g)[i]? = some (g (ys.getD i d)) := by rw [List.getElem?_map, List.getElem?_eq_getElem hi]; simp [List.getD, List.getElem?_eq_getElem hi]
  have h2 : (ys.map g)[j]? = some (g (ys.getD j d)) := by rw [List.getElem?_map, List.getElem?_eq_getElem hj]; simp [List.getD, List.getElem?_eq_getElem hj]
  have e : g (ys.getD i d) = g (ys.getD j d) := e
  rw [e] at h1
  have := nodup_get h h1 h2
  omega
theorem getD_at {α : Type} {d : α} {ys : List α} {i : Nat} {x : α} (h : ys[i]? = some x) : ys.getD i d = x := by
  simp [List.getD, h]
def leavesB : List Stmt → Bool
  | [] => false
  | [.Return _ _] => true
  | [.Break _] => true
  | [.Continue _] => true
  | [.Raise _ _ _] => true
  | _ :: r => leavesB r
/-- an if whose block ends by leaving -/
theorem jss_ifL {c : Expr} {t sts : List Stmt} {pos : Pos} {P : Po} (hl : leavesB t = true) (h : JT X F c s fun k s1 => if k = true then JSs X F t s1 (P.then fun s1 => JSs X F sts s1 P) else JSs X F sts s1 P) : JSs X F (.If c t [] pos :: sts) s P :=
  jss_cons (js_if (fun as G H σ Q cz k => h as G H σ Q cz fun b as' G' H' s' c' x q => k b as' G' H' s' c' x (by
    cases b with
    | true => exact q
    | false => exact jss_nilT (P := P) (N := fun s1 => JSs X F sts s1 P) q)))
section
variable {e : E} {Φ : E → S → Prop}
theorem jr_isT {b : Bool} (h : isBl b e = true) (q : Φ (.d (.bl true)) s) : JR X F (compareOp .Is) e (.d (.bl b)) s Φ := jr_isBl (by rw [h]; exact q)
theorem jr_isF {b : Bool} (h : isBl b e = false) (q : Φ (.d (.bl false)) s) : JR X F (compareOp .Is) e (.d (.bl b)) s Φ := jr_isBl (by rw [h]; exact q)
theorem jr_isNT (h : isNon e = true) (q : Φ (.d (.bl true)) s) : JR X F (compareOp .Is) e (.d .non) s Φ := jr_isN (by rw [h]; exact q)
theorem jr_isNF (h : isNon e = false) (q : Φ (.d (.bl false)) s) : JR X F (compareOp .Is) e (.d .non) s Φ := jr_isN (by rw [h]; exact q)
theorem jr_notNT (h : isNon e = true) (q : Φ (.d (.bl false)) s) : JR X F (compareOp .IsNot) e (.d .non) s Φ := jr_notN (by rw [h]; exact q)
theorem jr_notNF (h : isNon e = false) (q : Φ (.d (.bl true)) s) : JR X F (compareOp .IsNot) e (.d .non) s Φ := jr_notN (by rw [h]; exact q)
theorem jr_eqiS {i : Int} (q : Φ (.d (.bl true)) s) : JR X F (compareOp .Eq) (.d (.int i)) (.d (.int i)) s Φ := jr_eqi (by rw [decide_eq_true rfl]; exact q)
theorem jr_eqsS {i : Str} (q : Φ (.d (.bl true)) s) : JR X F (compareOp .Eq) (.d (.str i)) (.d (.str i)) s Φ := jr_eqs (by rw [decide_eq_true rfl]; exact q)
theorem jr_eqbS {i : Bool} (q : Φ (.d (.bl true)) s) : JR X F (compareOp .Eq) (.d (.bl i)) (.d (.bl i)) s Φ := jr_eqb (by rw [decide_eq_true rfl]; exact q)
theorem jr_nebS {i : Bool} (q : Φ (.d (.bl false)) s) : JR X F (compareOp .NotEq) (.d (.bl i)) (.d (.bl i)) s Φ := jr_neb (by rw [decide_eq_true rfl]; exact q)
end
theorem lk_memK {α : Type} {ks : List Key} {es : List α} {k : Key} {e : α} (h : lk (ks.zip es) k = some e) : memK k ks = true := by
  unfold lk at h
  cases q : (ks.zip es).find? fun kv => decide (kv.1 = k) with
  | none => rw [q] at h; cases h
  | some p =>
    have h1 := List.mem_of_find?_eq_some q
    have h2 := List.find?_some q
    have h3 : p.1 = k := of_decide_eq_true h2
    exact memK_iff.mpr (h3 ▸ (List.of_mem_zip h1).1)
theorem kit_NoneType_dict : kitB "NoneType" "dict" = some false := by decide +kernel
theorem kit_NoneType_list : kitB "NoneType" "list" = some false := by decide +kernel
theorem kit_NoneType_tuple : kitB "NoneType" "tuple" = some false := by decide +kernel
theorem kit_NoneType_str : kitB "NoneType" "str" = some false := by decide +kernel
theorem kit_NoneType_int : kitB "NoneType" "int" = some false := by decide +kernel
theorem kit_NoneType_bool : kitB "NoneType" "bool" = some false := by decide +kernel
theorem kit_bool_dict : kitB "bool" "dict" = some false := by decide +kernel
theorem kit_bool_list : kitB "bool" "list" = some false := by decide +kernel
theorem kit_bool_tuple : kitB "bool" "tuple" = some false := by decide +kernel
theorem kit_bool_str : kitB "bool" "str" = some false := by decide +kernel
theorem kit_bool_int : kitB "bool" "int" = some true := by decide +kernel
theorem kit_bool_bool : kitB "bool" "bool" = some true := by decide +kernel
theorem kit_int_dict : kitB "int" "dict" = some false := by decide +kernel
theorem kit_int_list : kitB "int" "list" = some false := by decide +kernel
theorem kit_int_tuple : kitB "int" "tuple" = some false := by decide +kernel
theorem kit_int_str : kitB "int" "str" = some false := by decide +kernel
theorem kit_int_int : kitB "int" "int" = some true := by decide +kernel
theorem kit_int_bool : kitB "int" "bool" = some false := by decide +kernel
theorem kit_str_dict : kitB "str" "dict" = some false := by decide +kernel
theorem kit_str_list : kitB "str" "list" = some false := by decide +kernel
theorem kit_str_tuple : kitB "str" "tuple" = some false := by decide +kernel
theorem kit_str_str : kitB "str" "str" = some true := by decide +kernel
theorem kit_str_int : kitB "str" "int" = some false := by decide +kernel
theorem kit_str_bool : kitB "str" "bool" = some false := by decide +kernel
theorem kit_tuple_dict : kitB "tuple" "dict" = some false := by decide +kernel
theorem kit_tuple_list : kitB "tuple" "list" = some false := by decide +kernel
theorem kit_tuple_tuple : kitB "tuple" "tuple" = some true := by decide +kernel
theorem kit_tuple_str : kitB "tuple" "str" = some false := by decide +kernel
theorem kit_tuple_int : kitB "tuple" "int" = some false := by decide +kernel
theorem kit_tuple_bool : kitB "tuple" "bool" = some false := by decide +kernel
theorem kit_list_dict : kitB "list" "dict" = some false := by decide +kernel
theorem kit_list_list : kitB "list" "list" = some true := by decide +kernel
theorem kit_list_tuple : kitB "list" "tuple" = some false := by decide +kernel
theorem kit_list_str : kitB "list" "str" = some false := by decide +kernel
theorem kit_list_int : kitB "list" "int" = some false := by decide +kernel
theorem kit_list_bool : kitB "list" "bool" = some false := by decide +kernel
theorem kit_dict_dict : kitB "dict" "dict" = some true := by decide +kernel
theorem kit_dict_list : kitB "dict" "list" = some false := by decide +kernel
theorem kit_dict_tuple : kitB "dict" "tuple" = some false := by decide +kernel
theorem kit_dict_str : kitB "dict" "str" = some false := by decide +kernel
theorem kit_dict_int : kitB "dict" "int" = some false := by decide +kernel
theorem kit_dict_bool : kitB "dict" "bool" = some false := by decide +kernel
end DL
namespace DL
open PySem PySem.Spec PyProof.Rows L2
variable {X : Cx} {F : Fr} {s : S}
variable {e a b c : Expr} {es rest : List Expr} {Φ : E → S → Prop} {pos p p2 : Pos} {x : Str} {k B : Nat}
/-- no owned thing among them -/
def allD : List E → Bool
  | [] => true
  | .d _ :: r => allD r
  | .r _ :: _ => false
theorem allD_eq {s : S} : ∀ {vs : List E} {ds : List D}, allD vs = true → s.views vs = some ds → dsOf vs = some ds
  | [], ds, _, h => by cases h; rfl
  | .r _ :: _, _, h, _ => by cases h
  | .d y :: r, ds, h, q => by
    unfold S.views at q
    cases q2 : s.views r with
    | none => rw [q2] at q; simp [S.view] at q
    | some ds' =>
      rw [q2] at q
      simp [S.view] at q
      subst q
      have := allD_eq (vs := r) h q2
      rw [dsOf_eq this]
      exact dsOf_map (y :: ds')
def RtX (Φ : E → S → Prop) (s : S) (vs : List E) (r : Rt) : Prop := match allD vs with
  | true => RtΦ Φ s r
  | false => r.imm = true ∧ RtΦ Φ s r
theorem RtX.ofP {s : S} {vs : List E} {r : Rt} (h : RtX Φ s vs r) (hd : allD vs = true) : RtΦ Φ s r := by unfold RtX at h; rw [hd] at h; exact h
theorem RtX.ofB {s : S} {vs : List E} {r : Rt} (h : RtX Φ s vs r) (hd : allD vs = false) : r.imm = true ∧ RtΦ Φ s r := by unfold RtX at h; rw [hd] at h; exact h
theorem rtX_P {vs : List E} {r : Rt} (h : RtΦ Φ s r) (hd : allD vs = true) : RtX Φ s vs r := by unfold RtX; rw [hd]; exact h
theorem rtX_B {vs : List E} {r : Rt} (hi : r.imm = true) (h : RtΦ Φ s r) : RtX Φ s vs r := by
  unfold RtX
  cases allD vs with
  | true => exact h
  | false => exact ⟨hi, h⟩
theorem ex_views {vs : List E} {ds : List D} {Q : List D → Prop} (h : s.views vs = some ds) (q : Q ds) : ∃ ds, s.views vs = some ds ∧ Q ds := ⟨ds, h, q⟩
theorem views_nil : s.views [] = some [] := rfl
theorem views_d {y : D} {r : List E} {ds : List D} (h : s.views r = some ds) : s.views (.d y :: r) = some (y :: ds) := by unfold S.views; rw [h]; rfl
theorem views_l {j : Nat} {es : List E} {ds rs : List D} {r : List E} (h1 : nth s.ce j = some (.nd .lst es)) (h2 : dsOf es = some ds) (h : s.views r = some rs) : s.views (.r j :: r) = some (.nd .lst ds :: rs) := by
  have e : s.view (.r j) = some (.nd .lst ds) := by
    show (match nth s.ce j with
      | some (.nd .lst es) => (dsOf es).map (D.nd .lst)
      | some (.nd (.dct ks) es) => (dsOf es).map (D.nd (.dct ks))
      | _ => (none : Option D)) = _
    rw [h1]; show (dsOf es).map _ = _; rw [h2]; rfl
  unfold S.views; rw [h, e]
theorem views_k {j : Nat} {ks : List Key} {es : List E} {ds rs : List D} {r : List E} (h1 : nth s.ce j = some (.nd (.dct ks) es)) (h2 : dsOf es = some ds) (h : s.views r = some rs) : s.views (.r j :: r) = some (.nd (.dct ks) ds :: rs) := by
  have e : s.view (.r j) = some (.nd (.dct ks) ds) := by
    show (match nth s.ce j with
      | some (.nd .lst es) => (dsOf es).map (D.nd .lst)
      | some (.nd (.dct ks) es) => (dsOf es).map (D.nd (.dct ks))
      | _ => (none : Option D)) = _
    rw [h1]; show (dsOf es).map _ = _; rw [h2]; rfl
  unfold S.views; rw [h, e]
/-- .. as a step -/
def VwK (s : S) (vs : List E) (Q : List D → Prop) : Prop := ∃ ds, s.views vs = some ds ∧ Q ds
theorem vk_nil {Q : List D → Prop} (q : Q []) : VwK s [] Q := ⟨[], rfl, q⟩
theorem vk_d {y : D} {r : List E} {Q : List D → Prop} (q : VwK s r fun ds => Q (y :: ds)) : VwK s (.d y :: r) Q := let ⟨ds, h, q⟩ := q; ⟨_, views_d h, q⟩
theorem vk_l {j : Nat} {es : List E} {ds : List D} {r : List E} {Q : List D → Prop} (h1 : nth s.ce j = some (.nd .lst es)) (h2 : dsOf es = some ds) (q : VwK s r fun rs => Q (.nd .lst ds :: rs)) : VwK s (.r j :: r) Q := let ⟨_, h, q⟩ := q; ⟨_, views_l h1 h2 h, q⟩
theorem vk_k {j : Nat} {ks : List Key} {es : List E} {ds : List D} {r : List E} {Q : List D → Prop} (h1 : nth s.ce j = some (.nd (.dct ks) es)) (h2 : dsOf es = some ds) (q : VwK s r fun rs => Q (.nd (.dct ks) ds :: rs)) : VwK s (.r j :: r) Q := let ⟨_, h, q⟩ := q; ⟨_, views_k h1 h2 h, q⟩
/-- a call of a def that owns none of its arguments: frozen ones, or owned ones that it only reads -/
theorem je_callX {R : RP} (cb : CbP X x k R) (bx : Bx X B) (hB : k ≤ B)
    (h : JA X F (a :: es) s fun vs s1 => VwK s1 vs fun ds => R ds fun r => RtX Φ s1 vs r) (hdb : (x == ("__debug__" : Str)) = false := by decide) (he : starEach (a :: es) X.env = (false, eval a X.env) :: starEach es X.env := by rfl)
    (hpl : (backTo pos (starEach es X.env)).any (·.1) = false := by rfl) : JE X F (.Call (.Name x p) (a :: es) [] pos) s Φ := by
  obtain ⟨f, fd, ps, h1, h2, h3, h4⟩ := cb.ex
  refine je_of (pe_call h4 (bx.room.mono hB) cb.gl h1 h2 h3 .nil pass0 (pa_sem X _) hdb he hpl) fun as G H σ Q c kk => h as G H σ _ c fun vs as1 G1 H1 es1 s1 c1 x1 ves ⟨ds, e1, hR⟩ => ?_
  rw [List.append_nil]
  cases hd : allD es1 with
  | true =>
    rw [dsOf_eq (allD_eq hd e1)] at ves
    refine ⟨G1, ds, c1.sub, ves.reps, cb.mono ds _ _ (fun r hr0 v G' H' q1 q2 q3 q4 q5 => ?_) hR⟩
    have hr := hr0.ofP hd
    have c2 := c1.call q1 q2 q3 q4
    have x2 : Ext as1 as1 G1 G' := ⟨List.prefix_refl _, q2⟩
    cases r with
    | dat y => exact kk v as1 G' H' (.d y) s1 c2 (x1.trans x2) q5 hr
    | new kd ds' =>
      obtain ⟨b, ws, rfl, w1, w2, w3, w4⟩ := q5
      have c3 := c2.grow (kd := kd) (es := ds'.map .d) w2 (c1.notin w1) (c1.h0none w1) w3 (VEs.ofReps w4)
      exact kk _ _ G' H' (.r s1.ce.length) _ c3 ((x1.trans x2).trans ⟨pre_snoc, Same.refl _⟩) ⟨b, by rw [← c1.len, List.getElem?_append_right (Nat.le_refl _)]; simp, rfl⟩ hr
  | false =>
    refine ⟨lend s1 as1 G1 H1, ds, lend_in c1.sub, c1.views ves e1, cb.mono ds _ _ (fun r hr0 v G' H' q1 q2 q3 q4 q5 => ?_) hR⟩
    obtain ⟨hi, hr⟩ := hr0.ofB hd
    -- what is frozen behind: G' without the owned
    obtain ⟨G2, hG2, hG3⟩ : ∃ G2 : Hp, (∀ b, Alive s1 as1 b → G2 b = none) ∧ ∀ b, ¬ Alive s1 as1 b → G2 b = G' b := by
      classical
      exact ⟨fun b => if Alive s1 as1 b then none else G' b, fun b h => if_pos h, fun b h => if_neg h⟩
    have ga : ∀ {b : Addr}, Alive s1 as1 b → G1 b = none := fun {b} ⟨k, kd, es, w1, w2⟩ => c1.own k b _ _ w1 w2
    have s1' : Same G1 G2 := fun b o q => by
      rw [hG3 b (fun z => by rw [ga z] at q; cases q)]
      exact q2 b o (lend_sub b o q)
    have s2' : Same G2 H' := fun b o q => by
      by_cases hb : Alive s1 as1 b
      · rw [hG2 b hb] at q; cases q
      · rw [hG3 b hb] at q; exact q3 b o q
    have s4' : ∀ b, G1 b = none → H1 b ≠ none → G2 b = none := fun b w1 w2 => by
      by_cases hb : Alive s1 as1 b
      · exact hG2 b hb
      · rw [hG3 b hb]
        exact q4 b (lend_no w1 hb) w2
    have c2 := c1.call q1 s1' s2' s4'
    have x2 : Ext as1 as1 G1 G2 := ⟨List.prefix_refl _, s1'⟩
    -- a tuple is no owned cell
    have tups : ∀ a vs, Rd G' a (.tup vs) → Rd G2 a (.tup vs) := fun b ws hb => by
      have nb : ¬ Alive s1 as1 b := fun z => by
        have w0 := ga z
        obtain ⟨j, kd, es, hj, hcl⟩ := z
        obtain ⟨b', us, g1, g2, g3⟩ := c1.cells j _ _ hcl
        rw [hj] at g1
        cases g1
        obtain ⟨o, ho⟩ := g2.some
        have hG' : G' b = some o := q2 b o (by rw [lend_yes w0 ⟨j, kd, es, hj, hcl⟩]; exact ho)
        have g2' : CellAt G' b us kd := g2.keep fun u q => by rw [ho] at q; cases q; exact hG'
        rcases hb with hb | ⟨oo, hb⟩
        · cases kd with
          | tup => exact g2'
          | lst => have : G' b = some (.lst us) := g2'; rw [hb] at this; cases this
          | dct ks => obtain ⟨_, _, _, this⟩ := g2'; rw [hb] at this; cases this
          | ins C fs => obtain ⟨_, _, this⟩ := g2'; rw [hb] at this; cases this
        · cases kd with
          | tup => exact g2'
          | lst => have : G' b = some (.lst us) := g2'; rw [hb] at this; cases this
          | dct ks => obtain ⟨_, _, _, this⟩ := g2'; rw [hb] at this; cases this
          | ins C fs => obtain ⟨_, _, this⟩ := g2'; rw [hb] at this; cases this
      rcases hb with hb | ⟨oo, hb⟩
      · exact .inl (by rw [hG3 b nb]; exact hb)
      · exact .inr ⟨oo, by rw [hG3 b nb]; exact hb⟩
    cases r with
    | dat y => exact kk v as1 G2 H' (.d y) s1 c2 (x1.trans x2) (imm_keep tups _ _ q5 hi) hr
    | new kd ds' =>
      obtain ⟨b, ws, rfl, w1, w2, w3, w4⟩ := q5
      have gb : G2 b = none := by
        by_cases hb : Alive s1 as1 b
        · exact hG2 b hb
        · rw [hG3 b hb]; exact w2
      have c3 := c2.grow (kd := kd) (es := ds'.map .d) gb (c1.notin w1) (c1.h0none w1) w3 (VEs.ofReps (imm_keeps tups _ _ w4 hi))
      exact kk _ _ G2 H' (.r s1.ce.length) _ c3 ((x1.trans x2).trans ⟨pre_snoc, Same.refl _⟩) ⟨b, by rw [← c1.len, List.getElem?_append_right (Nat.le_refl _)]; simp, rfl⟩ hr
theorem fz_map {k : Nat} {x : D} (ds : List D) : (ds.map E.d).map (E.fz k x) = ds.map E.d := by
  rw [List.map_map]; rfl
theorem ints_imm {α : Type} (f : α → Int) (l : List α) (n : Int) : D.imms (l.map (fun a => .int (f a)) ++ [.int n]) = true := by
  induction l with
  | nil => rfl
  | cons a l ih => show (true && D.imms (l.map (fun a => .int (f a)) ++ [.int n])) = true; rw [ih]; rfl
/-- freezing, the state told anew -/
theorem jss_frz' {sts : List Stmt} {P : Po} {k : Nat} {kd : Kd} {es : List E} {ds : List D} {s' : S} (h1 : nth s.ce k = some (.nd kd es)) (h2 : dsOf es = some ds) (h3 : ∀ C fs, kd ≠ .ins C fs) (h4 : s.ar ≤ k) (e : s.fz k (.nd kd ds) = s') (h : JSs X F sts s' P) : JSs X F sts s P :=
  jss_frz h1 h2 h3 h4 (e ▸ h)
end DL
namespace DL
open PySem PySem.Spec PyProof.Rows L2
variable {X : Cx} {F : Fr} {s : S}
variable {e a b c : Expr} {es rest : List Expr} {Φ : E → S → Prop} {pos p p2 : Pos} {x : Str} {k B : Nat}
/-! ### a module's name for a built-in function -/
structure GlF (X : Cx) (x : Str) (id : String) : Prop where
  gl : Gl X x
  mg : X.mg x = some (.builtin id)
theorem XIs.glf {P : Program} {w : World} {K : PySem.W.Frag} {mg : Str → Option Value} {base : Heap} {N : List Str} {sc : Scope} {k : Nat} {x : Str} {id : String} (h : XIs X P w K mg base N sc k) (h1 : sc.names.lookup x = some .globalImplicit) (h2 : mg x = some (.builtin id)) : GlF X x id := ⟨h.gl h1, by rw [h.eM]; exact h2⟩
theorem je_gcd (g : GlF X x "math.gcd") (h : JE X F a s fun e1 s1 => JE X F b s1 fun e2 s2 => ∃ i j : Int, e1 = .d (.int i) ∧ e2 = .d (.int j) ∧ Φ (.d (.int (Int.gcd i j : Nat))) s2) (hdb : (x == ("__debug__" : Str)) = false := by decide)
    (ns : NoStar a := by intro _ _; rfl) (ns2 : NoStar b := by intro _ _; rfl) : JE X F (.Call (.Name x p) [a, b] [] pos) s Φ :=
  je_of (pe_callBfun cr_gcd g.gl g.mg (pa_cons (pe_sem X a) (pa_cons (pe_sem X b) pa_nil (ns2 _ _)) (ns _ _)) hdb (by rw [ns, ns2]) (by rw [ns2]; rfl)) fun as G H σ Q c k =>
    h as G H σ _ c fun v1 as1 G1 H1 e1 s1 c1 x1 ve1 h1 => h1 as1 G1 H1 σ _ c1 fun v2 as2 G2 H2 e2 s2 c2 x2 ve2 ⟨i, j, q1, q2, q⟩ => by
      subst q1 q2
      cases ve1
      cases ve2
      exact ⟨i, j, rfl, k _ as2 G2 H2 _ s2 c2 (x1.trans x2) (Rep.int _) q⟩
/-! ### operators -/
def CDivZ (_ j : Int) : Prop := j ≠ 0 ∧ j.natAbs.log2 < 9000
theorem op_fdivZ : OpR X (binaryOp .FloorDiv) (rI CDivZ fun i j => .int (i.fdiv j)) := opI fun i j _ _ _ _ _ hc q => floordiv_int hc.1 q (.inl (PyProof.noPylong_of_log2 hc.2))
theorem jr_fdivZ {i j : Int} (hc : CDivZ i j) (q : Φ (.d (.int (i.fdiv j))) s) : JR X F (binaryOp .FloorDiv) (.d (.int i)) (.d (.int j)) s Φ := jr_ii op_fdivZ hc (.int _) q
/-- pairs of ints compared -/
def rq2 (i j : Int) : D := .nd .tup [.int i, .int j]
/-- a text some times -/
def repS (z : Str) (n : Nat) : Str := ⟨(List.replicate n z.cps).foldl (· ++ ·) #[]⟩
theorem repS_len (z : Str) : ∀ n, (repS z n).length = n * z.length := by
  have key : ∀ (n : Nat) (acc : Array Nat), ((List.replicate n z.cps).foldl (· ++ ·) acc).size = acc.size + n * z.cps.size := by
    intro n
    induction n with
    | zero => intro acc; simp
    | succ n ih =>
      intro acc
      rw [List.replicate_succ, List.foldl_cons, ih, Array.size_append, Nat.add_mul]
      omega
  intro n
  show ((List.replicate n z.cps).foldl (· ++ ·) #[]).size = _
  rw [key]
  show 0 + _ = _
  rw [Nat.zero_add]; rfl
def rMulS : R2 := fun x y H Q => ∃ z n, x = .str z ∧ y = .int n ∧ z.length ≤ 1000 ∧ 0 ≤ n ∧ n ≤ 1000 ∧ Q (.str (repS z n.toNat)) H
theorem op_mulS : OpR X (binaryOp .Mult) rMulS := by
  intro pins st σ H x y v u Q I rx ry h
  obtain ⟨z, n, rfl, rfl, h1, h2, h3, q⟩ := h
  obtain ⟨t, rfl⟩ := rx
  obtain ⟨t2, rfl⟩ := ry
  have hmul : z.length * n.toNat ≤ 1000000 := Nat.le_trans (Nat.mul_le_mul h1 (show n.toNat ≤ 1000 by omega)) (by decide)
  refine PySem.P.mul_str (by simp; omega) (fun hn hz => ?_) (fun hn hz => ?_) ?_
  · have h4 : (1000 : Int) ≤ (2 ^ 63 - 1) / n := Int.le_ediv_of_mul_le (by omega) (by omega)
    omega
  · have : z.length * n.toNat ≤ sizeLine := Nat.le_trans hmul (by rw [sizeLine_eq]; decide)
    exact decide_eq_false (by omega)
  · by_cases h0 : n < 1
    · have : n = 0 := by omega
      subst this
      rw [if_pos (by decide)]
      exact ⟨by decide, ⟨.str _, H, I.tok _, ⟨_, rfl⟩, q⟩⟩
    · rw [if_neg h0]
      by_cases h5 : (n == 1 || z.length == 0) = true
      · rw [if_pos h5]
        have e : repS z n.toNat = z := by
          rcases Bool.or_eq_true_iff.mp h5 with h6 | h6
          · have : n = 1 := by simpa using h6
            subst this
            show (⟨#[] ++ z.cps⟩ : Str) = z
            rw [Array.empty_append]
          · have h7 : z.length = 0 := by simpa using h6
            have h8 := repS_len z n.toNat
            rw [h7, Nat.mul_zero] at h8
            obtain ⟨cz⟩ := z
            have a1 : cz = #[] := Array.eq_empty_of_size_eq_zero h7
            have a2 : (repS ⟨cz⟩ n.toNat).cps = #[] := Array.eq_empty_of_size_eq_zero h8
            subst a1
            exact congrArg Str.mk a2
        rw [e] at q
        exact ⟨.str z, H, I, ⟨_, rfl⟩, q⟩
      · rw [if_neg h5]
        refine ⟨?_, ⟨.str _, H, I.tok _, ⟨_, rfl⟩, q⟩⟩
        show (repS z n.toNat).length ≤ _
        rw [repS_len, Nat.mul_comm]
        exact Nat.le_trans hmul (by rw [sizeLine_eq]; decide)
theorem jr_mulS {z : Str} {n : Int} (h1 : z.length ≤ 1000) (h2 : 0 ≤ n ∧ n ≤ 1000) (q : Φ (.d (.str (repS z n.toNat))) s) : JR X F (binaryOp .Mult) (.d (.str z)) (.d (.int n)) s Φ :=
  jr_of op_mulS fun as G H σ x y Q c v1 v2 k => by
    cases v1
    cases v2
    exact ⟨z, n, rfl, rfl, h1, h2.1, h2.2, k _ as G H _ s c (Ext.refl _ _) (Rep.str _) q⟩
/-! ### list(x), dict(x): new, frozen -/
theorem je_listD (g : GlB X "list") (h : JE X F a s fun e s1 => ∃ kd ds, s1.node e = some (kd, ds.map .d) ∧ (kd = .lst ∨ kd = .tup) ∧ Φ (.d (.nd .lst ds)) s1) (ns : NoStar a := by intro _ _; rfl) : JE X F (.Call (.Name "list" p) [a] [] pos) s Φ :=
  je_new (kd := .lst) (jn_listS g (h.mono fun e s1 ⟨kd, ds, h1, h2, h3⟩ => ⟨kd, _, h1, h2, rfl, ds, dsOf_map ds, h3⟩) ns) (.inr rfl)
theorem je_tupleD (g : GlB X "tuple") (h : JE X F a s fun e s1 => ∃ ds, s1.node e = some (.lst, ds.map .d) ∧ Φ (.d (.nd .tup ds)) s1) (ns : NoStar a := by intro _ _; rfl) : JE X F (.Call (.Name "tuple" p) [a] [] pos) s Φ :=
  je_new (kd := .tup) (jn_tupleL g (h.mono fun e s1 ⟨ds, h1, h3⟩ => ⟨_, h1, rfl, ds, dsOf_map ds, h3⟩) ns) (.inl rfl)
theorem je_dictD (g : GlB X "dict") (h : JE X F a s fun e s1 => ∃ ks ds, s1.node e = some (.dct ks, ds.map .d) ∧ Φ (.d (.nd (.dct ks) ds)) s1) (ns : NoStar a := by intro _ _; rfl) : JE X F (.Call (.Name "dict" p) [a] [] pos) s Φ := fun as G H σ Q c k =>
  sem_lock (PE.sem (pe_callTy call_dictD g.gl g.mg PyProof.Rows.boot_dict (pa_cons (pe_sem X a) pa_nil (ns _ _)) (he := ns _ _)) (h as G H σ _ c fun v as1 G1 H1 e1 s1 c1 x1 ve ⟨ks, ds, h1, h2⟩ => by
    obtain ⟨d, vs, rfl, ⟨n1, n2, od, n3⟩, ves⟩ := c1.node ve h1
    refine ⟨d, _, rfl, .inr ⟨od, n3⟩, fun q hq => ⟨q, _, upd_same, trivial, fun od' => ?_⟩⟩
    rw [upd_upd]
    have sg : Same G1 (upd G1 q (.frz od' (.dK (ks.zip vs)))) := same_new (c1.gnone hq)
    exact k _ as1 _ _ (.d (.nd (.dct ks) ds)) s1 (c1.addG hq) (x1.trans ⟨List.prefix_refl _, sg⟩) (.nd ⟨n1, n2, od', upd_same⟩ (ves.reps.mono sg)) h2))
/-- d.get(k, x) -/
theorem je_get2 {o : Expr} {apos : Pos} (bx : Bx X B) (h : JE X F o s fun eo s1 => (∃ kd0 es0, s1.node eo = some (.dct kd0, es0)) ∧ JE X F a s1 fun e1 s2 => JE X F b s2 fun e2 s3 => ∃ ks es kk, s3.node eo = some (.dct ks, es) ∧ keyE e1 = some kk ∧ Φ ((lk (ks.zip es) kk).getD e2) s3) (m : M2 X o "get" apos a b pos) :
    JE X F (.Call (.Attribute o "get" apos) [a, b] [] pos) s Φ :=
  je_of (pe_dget2 bx.hu (pe_sem X o) (pe_sem X a) (pe_sem X b) m) fun as G H σ Q c k => h as G H σ _ c fun v as1 G1 H1 eo s1 c1 x1 ve ⟨⟨kd0, es0, hn⟩, h1⟩ => by
    obtain ⟨d, vs0, rfl, ⟨m1, m2, od0, m3⟩, _⟩ := c1.node ve hn
    refine ⟨d, rfl, .inl ⟨_, .inr ⟨od0, m3⟩⟩, h1 as1 G1 H1 σ _ c1 fun v2 as2 G2 H2 e1 s2 c2 x2 ve2 h2 => h2 as2 G2 H2 σ _ c2 fun v3 as3 G3 H3 e2 s3 c3 x3 ve3 ⟨ks, es, kk, q1, q2, q3⟩ => ?_⟩
    obtain ⟨d', vs, e', ⟨n1, n2, od, n3⟩, ves⟩ := c3.node ((x2.trans x3).ve ve) q1
    cases e'
    obtain rfl := keyE_v q2 ve2
    refine ⟨_, .inl ⟨_, kk, .inr ⟨od, n3⟩, rfl, rfl⟩, ?_⟩
    obtain ⟨w1, w2⟩ := lk_val (k := kk) (ks := ks) ves
    cases hl : lk (ks.zip es) kk with
    | none =>
      rw [w2 hl]
      rw [hl] at q3
      exact k v3 as3 G3 H3 e2 s3 c3 ((x1.trans x2).trans x3) ve3 q3
    | some e' =>
      obtain ⟨v', h1, h2⟩ := w1 e' hl
      rw [h1]
      rw [hl] at q3
      exact k v' as3 G3 H3 e' s3 c3 ((x1.trans x2).trans x3) h2 q3
/-- d.clear(), d a name of an owned dict -/
theorem mt_clearZ : MtR X "dict.clear" (fun x vs H Q => ∃ (a : Addr) (od : Obj) (kvs : List (Key × V)), x = .ref a ∧ vs = [] ∧ H a = some (.frz od (.dK kvs)) ∧ (∀ o' u', X.H_0 a ≠ some (.frz o' u')) ∧ ∀ od', Q .non (upd H a (.frz od' (.dK [])))) := by
  intro pins st σ H x vs v us Q I rx rv h
  obtain ⟨a, od, kvs, rfl, rfl, ha, hn, q⟩ := h
  have I1 := I.unlock ha hn
  refine thn (mtd_clear pins st σ _ (.ref a) [] v us (fun y H' => y = .non ∧ H' = upd (upd H a (.dK kvs)) a (.dK [])) I1 rx rv ⟨a, kvs, rfl, rfl, upd_same, rfl, rfl⟩) fun y s' ⟨z, H', I2, rz, e1, e2⟩ => ?_
  subst e1 e2
  rw [upd_upd] at I2
  obtain ⟨od', I3⟩ := I2.lock (d := a) upd_same trivial
  rw [upd_upd] at I3
  exact ⟨.non, _, I3, rz, q od'⟩
theorem je_clear {i : Nat} {apos np : Pos} {ks : List Key} {es : List E} {j : Nat} (hH : X.H_0 = F.H0) (n : NmR X i x) (h1 : nth s.sl i = some (some (.r j))) (h2 : nth s.ce j = some (.nd (.dct ks) es)) (h3 : s.ar ≤ j) (q : Φ (.d .non) (s.put j (.dct []) []))
    (hbase : attributeBase (.Name x np) "clear" X.env (eval (.Name x np) X.env) = eval (.Name x np) X.env := by rfl) (hline : (apos.endLine == pos.line) = true := by rfl) : JE X F (.Call (.Attribute (.Name x np) "clear" apos) [] [] pos) s Φ := fun as G H σ Q c k => by
  rw [nth_eq] at h1 h2
  obtain ⟨v, g1, g2⟩ := c.slots i _ h1
  obtain ⟨a, ha, rfl⟩ := g2
  obtain ⟨a', vs, w1, ⟨w2, w3, od, w4⟩, w5⟩ := c.cells j _ _ h2
  rw [ha] at w1
  cases w1
  have nA : a ∉ F.A0 := fun z => by
    obtain ⟨l, hl⟩ := List.getElem?_of_mem z
    have q := pre_get c.pre hl
    obtain ⟨l1, e1⟩ := List.getElem?_eq_some_iff.mp q
    obtain ⟨l2, e2⟩ := List.getElem?_eq_some_iff.mp ha
    have := (List.getElem_inj c.nd).mp (e1.trans e2.symm)
    have l3 := (List.getElem?_eq_some_iff.mp hl).1
    rw [c.har] at l3
    omega
  have h0 : F.H0 a = none := (c.fresh a (List.mem_of_getElem? ha)).resolve_left nA
  have hn : ∀ o' u', X.H_0 a ≠ some (.frz o' u') := fun o' u' z => by rw [hH, h0] at z; cases z
  intro pins st I
  have I1 := I.unlock w4 hn
  refine thn ((pe_dclear (pe_var n.nm n.vis n.dbg n.cdt) hbase hline).run pins st σ _ (fun y H' => y = .non ∧ H' = upd (upd H a (.dK (ks.zip vs))) a (.dK [])) I1 ⟨_, g1, .inr (.inr (.inl ⟨rfl, .inl ⟨_, upd_same⟩⟩)), a, _, rfl, rfl, upd_same, rfl, rfl⟩) fun y s' ⟨z, H', I2, rz, e1, e2⟩ => ?_
  subst e1 e2
  rw [upd_upd] at I2
  obtain ⟨od', I3⟩ := I2.lock (d := a) upd_same trivial
  rw [upd_upd] at I3
  exact ⟨.non, _, I3, rz, k .non as G _ (.d .non) _ (c.put (kd := .dct []) (es := []) (vs := []) h2 ha ⟨rfl, List.nodup_nil, od', upd_same⟩ .nil) (Ext.refl _ _) Rep.non q⟩
end DL
namespace DL
open PySem PySem.Spec PyProof.Rows L2
/-! ### defs that own cells: any of the arguments, cells that refer to cells -/
def E.ren (f : Nat → Nat) : E → E
  | .d x => .d x
  | .r k => .r (f k)
def Cell.ren (f : Nat → Nat) : Cell → Cell
  | .gone => .gone
  | .nd kd es => .nd kd (es.map (E.ren f))
theorem ren_map (f : Nat → Nat) (ds : List D) : (ds.map E.d).map (E.ren f) = ds.map E.d := by rw [List.map_map]; rfl
/-- what is owned -/
structure Ow (K : PySem.W.Frag) (as : List Addr) (G H : Hp) (ce : List Cell) : Prop where
  len : as.length = ce.length
  nd : as.Nodup
  own : ∀ (k : Nat) (a : Addr) (kd : Kd) (es : List E), as[k]? = some a → ce[k]? = some (.nd kd es) → G a = none
  there : ∀ a ∈ as, H a ≠ none
  cells : ∀ (k : Nat) (kd : Kd) (es : List E), ce[k]? = some (.nd kd es) → ∃ a vs, as[k]? = some a ∧ CellAt H a vs kd ∧ VEs K G as vs es
abbrev RS := List Cell → List E → (E → List Cell → Prop) → Prop
def spS (K : PySem.W.Frag) (R : RS) : Sp := fun vs H Q _ => ∃ as ce es G, Same G H ∧ Ow K as G H ce ∧ VEs K G as vs es ∧
  R ce es fun e ce' => ∀ v as' G' H', as <+: as' → (∀ a ∈ as', a ∈ as ∨ H a = none) → (∀ b o, b ∉ as → H b = some o → H' b = some o) → Same G G' → Same G' H' → (∀ b, G b = none → H b ≠ none → G' b = none) → Ow K as' G' H' ce' → VE K G' as' v e → Q v H'
def MonoS (R : RS) : Prop := ∀ ce es p q, (∀ e c, p e c → q e c) → R ce es p → R ce es q
structure CaS (P : Program) (w : World) (K : PySem.W.Frag) (mg : Str → Option Value) (base : Heap) (x : Str) (k : Nat) (R : RS) : Prop where
  mono : MonoS R
  ex : ∃ f fd ps, mg x = some (.ref f) ∧ PySem.W.keepIn K (.ref f) = true ∧ Binds K fd ps [] ∧ FnOk P w K mg base CX0 k f fd ps (spS K R)
structure CbS (X : Cx) (x : Str) (k : Nat) (R : RS) : Prop where
  gl : Gl X x
  mono : MonoS R
  ex : ∃ f fd ps, X.mg x = some (.ref f) ∧ PySem.W.keepIn X.K (.ref f) = true ∧ Binds X.K fd ps [] ∧ FnOk X.prog X.w X.K X.mg X.base CX0 k f fd ps (spS X.K R)
theorem CaS.at {X : Cx} {P : Program} {w : World} {K : PySem.W.Frag} {mg : Str → Option Value} {base : Heap} {N : List Str} {sc : Scope} {k j : Nat} {x : Str} {R : RS} (c : CaS P w K mg base x j R) (h : XIs X P w K mg base N sc k)
    (h1 : sc.names.lookup x = some .globalImplicit) : CbS X x j R := by
  obtain ⟨e1, e2, e3, e4, e5, _⟩ := id h
  subst e1 e2 e3 e4 e5
  exact ⟨h.gl h1, c.mono, c.ex⟩
theorem Cz.ow {X : Cx} {F : Fr} {s : S} {as : List Addr} {G H : Hp} {σ : L2.St} (c : Cz X F as G H σ s) : Ow X.K as G H s.ce := ⟨c.len, c.nd, c.own, c.there, c.cells⟩
section
variable {P : Program} {w : World} {K : PySem.W.Frag} {mg : Str → Option Value} {base : Heap} {x qual : Str} {st : Stmt} {f : Addr} {fd : FuncData} {N ps : List Str} {k : Nat}
theorem fn_S {R : RS} (F : Fun K x qual st f fd) (S : FnScope N ps (defScope st)) (hlen : ∀ ce es post, R ce es post → es.length = ps.length)
    (body : ∀ (X : Cx) (F : Fr) (ce : List Cell) (es : List E) (post : E → List Cell → Prop), XIs X P w K mg base N (defScope st) k → (∀ y, X.fn y = true) → X.H_0 = F.H0 → R ce es post → JSs X F (defBody st) (entry N es ce ce.length)
      { nx := fun s => post (.d .non) s.ce, rt := fun e s => post e s.ce }) :
    FnOk P w K mg base CX0 (k + 1) f fd ps (spS K R) := by
  refine F.ok S (fun vs H Q E h => ?_) fun cdv A outer s H vs Q Ex hr h => ?_
  · obtain ⟨as, ce, es, G, _, _, ve, hR⟩ := h
    rw [Paired.length ve]; exact hlen ce es _ hR
  · obtain ⟨as, ce, es, G, sg, ow, ve, hR⟩ := h
    refine ⟨_, pss_sem _ _, ?_⟩
    refine body _ ⟨G, H, as⟩ ce es _ ⟨rfl, rfl, rfl, rfl, rfl, rfl, rfl, rfl, S.nd, rfl, hr⟩ (fun _ => rfl) rfl hR as G H _ _ ?_ ?_
    · refine ⟨sg, Same.refl _, fun _ h _ => h, fun _ _ h _ => h, ow.len, List.prefix_refl _, ow.nd, ow.own, fun a h => .inl h, ow.there, ow.cells, fun i e h => slots_entry ve N h, ?_, ow.len⟩
      show (es.map some ++ List.replicate (N.length - es.length) none).length = (L2.start N vs).length
      unfold L2.start
      simp [Paired.length ve]
    · have fin : ∀ {as' : List Addr} {G' H' : Hp} {σ' : L2.St} {s' : DL.S}, Cz (cxOf CX0 P w K mg base N qual (defScope st) f cdv A outer s H Ex).nox ⟨G, H, as⟩ as' G' H' σ' s' → ∀ b o, b ∉ as → H b = some o → H' b = some o := fun {as' G' H' σ' s'} c b o hb q => c.frame b o q hb
      exact ⟨fun as' G' H' σ' s' c x q => q .non as' G' H' c.pre c.fresh (fin c) c.base c.sub c.new c.ow .non, fun v as' G' H' σ' e' s' c x ve q => q v as' G' H' c.pre c.fresh (fin c) c.base c.sub c.new c.ow ve, fun _ _ _ _ _ _ _ q => q.elim, fun _ _ _ _ _ _ _ q => q.elim⟩
end
/-! the call -/
def jsF (js : List Nat) (len : Nat) (i : Nat) : Nat := match nth js i with
  | some j => j
  | none => len + (i - js.length)
def setMany : List Cell → List Nat → List Cell → List Cell
  | ce, [], _ => ce
  | ce, _ :: _, [] => ce
  | ce, j :: js, c :: cs => setMany (setN ce j c) js cs
termination_by structural _ js => js
theorem setMany_len : ∀ (js : List Nat) (ce cs : List Cell), (setMany ce js cs).length = ce.length
  | [], _, _ => rfl
  | _ :: _, _, [] => rfl
  | j :: js, ce, c :: cs => by unfold setMany; rw [setMany_len js, setN_eq, List.length_set]
theorem setMany_out : ∀ {js : List Nat} {ce cs : List Cell} {k : Nat}, k ∉ js → (setMany ce js cs)[k]? = ce[k]?
  | [], _, _, _, _ => rfl
  | _ :: _, _, [], _, _ => rfl
  | j :: js, ce, c :: cs, k, h => by
    simp only [List.mem_cons, not_or] at h
    unfold setMany
    rw [setMany_out h.2, setN_eq, List.getElem?_set_ne (fun z => h.1 z.symm)]
theorem setMany_in : ∀ {js : List Nat} {ce cs : List Cell} {i j : Nat} {c : Cell}, js.Nodup → (∀ j ∈ js, j < ce.length) → js[i]? = some j → cs[i]? = some c → (setMany ce js cs)[j]? = some c
  | [], _, _, _, _, _, _, _, h, _ => by simp at h
  | _ :: _, _, [], _, _, _, _, _, _, h => by simp at h
  | j0 :: js, ce, c0 :: cs, 0, j, c, hn, hb, h1, h2 => by
    simp at h1 h2
    subst h1 h2
    unfold setMany
    rw [setMany_out (List.nodup_cons.mp hn).1, setN_eq, List.getElem?_set_self (hb _ List.mem_cons_self)]
  | j0 :: js, ce, c0 :: cs, i + 1, j, c, hn, hb, h1, h2 => by
    simp at h1 h2
    unfold setMany
    exact setMany_in (List.nodup_cons.mp hn).2 (fun j hj => by rw [setN_eq, List.length_set]; exact hb j (List.mem_cons_of_mem _ hj)) h1 h2
def S.back (s : S) (js : List Nat) (ce : List Cell) : S := ⟨s.sl, setMany s.ce js ((ce.take js.length).map (Cell.ren (jsF js s.ce.length))) ++ (ce.drop js.length).map (Cell.ren (jsF js s.ce.length)), s.ar⟩
/-- the cells that go along, told in the callee's numbers -/
def Goes (s : S) (js : List Nat) (ce : List Cell) : Prop := js.Nodup ∧ (∀ j ∈ js, j < s.ce.length) ∧ js.length = ce.length ∧ (∀ (i j : Nat) (c : Cell), js[i]? = some j → ce[i]? = some c → s.ce[j]? = some (c.ren (jsF js s.ce.length))) ∧ ce.all (Cell.ltB ce.length) = true
variable {X : Cx} {F : Fr} {s : S}
theorem jsF_in {js : List Nat} {len i : Nat} (h : i < js.length) : js[i]? = some (jsF js len i) := by
  unfold jsF
  rw [nth_eq, List.getElem?_eq_getElem h]
theorem jsF_out {js : List Nat} {len i : Nat} (h : ¬ i < js.length) : jsF js len i = len + (i - js.length) := by
  unfold jsF
  rw [nth_eq, List.getElem?_eq_none (by omega)]
/-- the callee's addresses -/
def subA (as : List Addr) (js : List Nat) : List Addr := js.map fun j => as.getD j 0
theorem subA_get {as : List Addr} {js : List Nat} {i j : Nat} (hj : js[i]? = some j) (hb : j < as.length) : (subA as js)[i]? = as[j]? := by
  unfold subA
  rw [List.getElem?_map, hj, List.getElem?_eq_getElem hb]
  simp [List.getD, List.getElem?_eq_getElem hb]
theorem ve_in {K : PySem.W.Frag} {G : Hp} {as : List Addr} {js : List Nat} {len : Nat} {v : V} (hb : ∀ j ∈ js, j < as.length) : ∀ {e : E}, e.lt js.length = true → VE K G as v (e.ren (jsF js len)) → VE K G (subA as js) v e
  | .d _, _, h => h
  | .r i, hl, ⟨a, h1, h2⟩ => by
    have hi : i < js.length := by simpa [E.lt] using hl
    have hj := jsF_in (len := len) hi
    exact ⟨a, by rw [subA_get hj (hb _ (List.mem_of_getElem? hj))]; exact h1, h2⟩
theorem ves_in {K : PySem.W.Frag} {G : Hp} {as : List Addr} {js : List Nat} {len : Nat} (hb : ∀ j ∈ js, j < as.length) : ∀ {es : List E} {vs : List V}, es.all (E.lt js.length) = true → VEs K G as vs (es.map (E.ren (jsF js len))) → VEs K G (subA as js) vs es
  | [], _, _, .nil => .nil
  | e :: es, _, hl, .cons h t => by
    rw [List.all_cons, Bool.and_eq_true] at hl
    exact .cons (ve_in hb hl.1 h) (ves_in hb hl.2 t)
/-- behind the call -/
theorem ve_out {K : PySem.W.Frag} {G : Hp} {as as' : List Addr} {js : List Nat} {v : V} (hb : ∀ j ∈ js, j < as.length) (hp : subA as js <+: as') : ∀ {e : E}, VE K G as' v e → VE K G (as ++ as'.drop js.length) v (e.ren (jsF js as.length))
  | .d _, h => h
  | .r i, ⟨a, h1, h2⟩ => by
    refine ⟨a, ?_, h2⟩
    have hsl : (subA as js).length = js.length := List.length_map _
    by_cases hi : i < js.length
    · have hj := jsF_in (len := as.length) hi
      have hjb := hb _ (List.mem_of_getElem? hj)
      rw [List.getElem?_append_left hjb, ← subA_get hj hjb]
      obtain ⟨t, rfl⟩ := hp
      rw [List.getElem?_append_left (by omega)] at h1
      exact h1
    · rw [jsF_out hi, List.getElem?_append_right (by omega), List.getElem?_drop]
      have : js.length + (as.length + (i - js.length) - as.length) = i := by omega
      rw [this]
      exact h1
theorem ves_out {K : PySem.W.Frag} {G : Hp} {as as' : List Addr} {js : List Nat} (hb : ∀ j ∈ js, j < as.length) (hp : subA as js <+: as') : ∀ {es : List E} {vs : List V}, VEs K G as' vs es → VEs K G (as ++ as'.drop js.length) vs (es.map (E.ren (jsF js as.length)))
  | [], _, .nil => .nil
  | _ :: _, _, .cons h t => .cons (ve_out hb hp h) (ves_out hb hp t)
theorem subA_nd {as : List Addr} (nd : as.Nodup) : ∀ {js : List Nat}, js.Nodup → (∀ j ∈ js, j < as.length) → (subA as js).Nodup
  | [], _, _ => List.nodup_nil
  | j :: js, h, hb => by
    have ih := subA_nd nd (List.nodup_cons.mp h).2 fun j hj => hb j (List.mem_cons_of_mem _ hj)
    show (as.getD j 0 :: subA as js).Nodup
    rw [List.nodup_cons]
    refine ⟨fun z => ?_, ih⟩
    obtain ⟨l, hl, e⟩ := List.mem_map.mp z
    have b1 := hb j List.mem_cons_self
    have b2 := hb l (List.mem_cons_of_mem _ hl)
    simp only [List.getD, List.getElem?_eq_getElem b1, List.getElem?_eq_getElem b2, Option.getD_some] at e
    have := (List.getElem_inj nd).mp e
    subst this
    exact (List.nodup_cons.mp h).1 hl
theorem subA_mem {as : List Addr} {js : List Nat} {a : Addr} (hb : ∀ j ∈ js, j < as.length) (h : a ∈ subA as js) : ∃ i j : Nat, js[i]? = some j ∧ as[j]? = some a := by
  obtain ⟨j, hj, e⟩ := List.mem_map.mp h
  obtain ⟨i, hi⟩ := List.getElem?_of_mem hj
  refine ⟨i, j, hi, ?_⟩
  have b := hb j hj
  rw [List.getElem?_eq_getElem b]
  simp only [List.getD, List.getElem?_eq_getElem b, Option.getD_some] at e
  rw [e]
theorem ltB_cell {n : Nat} {ce : List Cell} (h : ce.all (Cell.ltB n) = true) {k : Nat} {kd : Kd} {es : List E} (q : ce[k]? = some (.nd kd es)) : es.all (E.lt n) = true :=
  List.all_eq_true.mp h _ (List.mem_of_getElem? q)
theorem Cz.goes {as : List Addr} {G H : Hp} {σ : L2.St} {js : List Nat} {ce : List Cell} (c : Cz X F as G H σ s) (g : Goes s js ce) : Ow X.K (subA as js) G H ce := by
  obtain ⟨g1, g2, g3, g4, g5⟩ := g
  have hb : ∀ j ∈ js, j < as.length := fun j hj => by rw [c.len]; exact g2 j hj
  have hjs : ∀ {k : Nat} {cl : Cell}, ce[k]? = some cl → js[k]? = some (jsF js s.ce.length k) ∧ jsF js s.ce.length k < as.length := fun {k cl} h => by
    have hk : k < js.length := by rw [g3]; exact (List.getElem?_eq_some_iff.mp h).1
    have := jsF_in (len := s.ce.length) hk
    exact ⟨this, hb _ (List.mem_of_getElem? this)⟩
  refine ⟨by unfold subA; rw [List.length_map, g3], subA_nd c.nd g1 hb, fun k a kd es h1 h2 => ?_, fun a ha => ?_, fun k kd es h => ?_⟩
  · obtain ⟨e1, e2⟩ := hjs h2
    rw [subA_get e1 e2] at h1
    have := g4 _ _ _ e1 h2
    exact c.own _ a kd _ h1 this
  · obtain ⟨i, j, _, h⟩ := subA_mem hb ha
    exact c.there a (List.mem_of_getElem? h)
  · obtain ⟨e1, e2⟩ := hjs h
    obtain ⟨a, vs, w1, w2, w3⟩ := c.cells _ kd _ (g4 _ _ _ e1 h)
    refine ⟨a, vs, by rw [subA_get e1 e2]; exact w1, w2, ves_in hb ?_ w3⟩
    rw [g3]
    exact ltB_cell g5 h
theorem Cz.ret {as as' : List Addr} {G H G' H' : Hp} {σ : L2.St} {js : List Nat} {ce ce' : List Cell} (c : Cz X F as G H σ s) (g : Goes s js ce) (h1 : subA as js <+: as') (h2 : ∀ a ∈ as', a ∈ subA as js ∨ H a = none) (h3 : ∀ b o, b ∉ subA as js → H b = some o → H' b = some o)
    (h4 : Same G G') (h5 : Same G' H') (h6 : ∀ b, G b = none → H b ≠ none → G' b = none) (ow : Ow X.K as' G' H' ce') : Cz X F (as ++ as'.drop js.length) G' H' σ (s.back js ce') := by
  obtain ⟨g1, g2, g3, g4, g5⟩ := g
  have hb : ∀ j ∈ js, j < as.length := fun j hj => by rw [c.len]; exact g2 j hj
  have hsl : (subA as js).length = js.length := List.length_map _
  have hle : js.length ≤ as'.length := by rw [← hsl]; exact h1.length_le
  have hsub : ∀ a ∈ subA as js, a ∈ as := fun a ha => by
    obtain ⟨i, j, _, h⟩ := subA_mem hb ha
    exact List.mem_of_getElem? h
  have as'i : ∀ {i : Nat}, i < js.length → as'[i]? = (subA as js)[i]? := fun {i} hi => by
    obtain ⟨t, rfl⟩ := h1
    rw [List.getElem?_append_left (by omega)]
  -- the new ones
  have hnew : ∀ a ∈ as'.drop js.length, H a = none := fun a ha => by
    refine (h2 a (List.mem_of_mem_drop ha)).resolve_left fun z => ?_
    obtain ⟨l, hl⟩ := List.getElem?_of_mem ha
    rw [List.getElem?_drop] at hl
    obtain ⟨i, hi⟩ := List.getElem?_of_mem z
    have hi2 : i < js.length := by rw [← hsl]; exact (List.getElem?_eq_some_iff.mp hi).1
    rw [← as'i hi2] at hi
    have := nodup_get ow.nd hi hl
    omega
  have cel : ∀ {k : Nat} {cl : Cell}, (s.back js ce').ce[k]? = some cl → (k < as.length ∧ k ∉ js ∧ s.ce[k]? = some cl) ∨ ∃ (i : Nat) (c0 : Cell), ce'[i]? = some c0 ∧ cl = c0.ren (jsF js s.ce.length) ∧ (as ++ as'.drop js.length)[k]? = as'[i]? := fun {k cl} q => by
    have q : (setMany s.ce js ((ce'.take js.length).map (Cell.ren (jsF js s.ce.length))) ++ (ce'.drop js.length).map (Cell.ren (jsF js s.ce.length)))[k]? = some cl := q
    have hsm : (setMany s.ce js ((ce'.take js.length).map (Cell.ren (jsF js s.ce.length)))).length = as.length := by rw [setMany_len, c.len]
    by_cases hk : k < as.length
    · rw [List.getElem?_append_left (by omega)] at q
      by_cases hj : k ∈ js
      · obtain ⟨i, hi⟩ := List.getElem?_of_mem hj
        have hi2 : i < js.length := (List.getElem?_eq_some_iff.mp hi).1
        have hi3 : i < ce'.length := by rw [← ow.len]; omega
        have e1 : ((ce'.take js.length).map (Cell.ren (jsF js s.ce.length)))[i]? = some (ce'[i].ren (jsF js s.ce.length)) := by
          rw [List.getElem?_map, List.getElem?_take_of_lt hi2, List.getElem?_eq_getElem hi3]; rfl
        rw [setMany_in g1 g2 hi e1] at q
        cases q
        refine .inr ⟨i, ce'[i], List.getElem?_eq_getElem hi3, rfl, ?_⟩
        rw [List.getElem?_append_left hk, as'i hi2, subA_get hi hk]
      · rw [setMany_out hj] at q
        exact .inl ⟨hk, hj, q⟩
    · rw [List.getElem?_append_right (by omega), hsm, List.getElem?_map, List.getElem?_drop] at q
      cases e : ce'[js.length + (k - as.length)]? with
      | none => rw [e] at q; cases q
      | some c0 =>
        rw [e] at q
        cases q
        exact .inr ⟨_, c0, e, rfl, by rw [List.getElem?_append_right (by omega), List.getElem?_drop]⟩
  have nd2 : (as ++ as'.drop js.length).Nodup := by
    rw [List.nodup_append]
    exact ⟨c.nd, ow.nd.sublist (List.drop_sublist _ _), fun a ha b hb e => c.there a ha (by rw [e]; exact hnew b hb)⟩
  have addr : ∀ {a : Addr}, a ∈ as → a ∉ subA as js → ∀ o, H a = some o → H' a = some o := fun {a} _ hn o ho => h3 a o hn ho
  refine ⟨h5, c.base.trans h4, fun b q1 q2 => ?_, fun b o q1 q2 => ?_, ?_, c.pre.trans ⟨_, rfl⟩, nd2, fun k a kd es q1 q2 => ?_, fun a ha => ?_, fun a ha => ?_, fun k kd es q => ?_, fun i e q => ?_, c.slen, c.har⟩
  · refine h6 b (c.new b q1 q2) fun z => ?_
    cases q : F.H0 b with
    | none => exact q2 q
    | some o =>
      by_cases hA : b ∈ F.A0
      · exact c.there b (c.pre.subset hA) z
      · have := c.frame b o q hA
        rw [z] at this; cases this
  · refine h3 b o (fun z => ?_) (c.frame b o q1 q2)
    rcases c.fresh b (hsub b z) with w | w
    · exact q2 w
    · rw [w] at q1; cases q1
  · show _ = (setMany s.ce js _ ++ _).length
    rw [List.length_append, List.length_append, setMany_len, List.length_map, List.length_drop, List.length_drop, c.len, ow.len]
  · rcases cel q2 with ⟨hk, _, q3⟩ | ⟨i, c0, q3, q4, q5⟩
    · rw [List.getElem?_append_left hk] at q1
      exact h6 a (c.own k a kd es q1 q3) (c.there a (List.mem_of_getElem? q1))
    · rw [q5] at q1
      cases c0 with
      | gone => cases q4
      | nd kd0 es0 => exact ow.own i a kd0 es0 q1 q3
  · rcases List.mem_append.mp ha with ha | ha
    · exact c.fresh a ha
    · exact .inr (c.h0none (hnew a ha))
  · rcases List.mem_append.mp ha with ha | ha
    · by_cases hm : a ∈ subA as js
      · exact ow.there a (h1.subset hm)
      · cases q : H a with
        | none => exact absurd q (c.there a ha)
        | some o => rw [h3 a o hm q]; exact fun z => nomatch z
    · exact ow.there a (List.mem_of_mem_drop ha)
  · rcases cel q with ⟨hk, hj, q3⟩ | ⟨i, c0, q3, q4, q5⟩
    · obtain ⟨a, vs, w1, w2, w3⟩ := c.cells k kd es q3
      refine ⟨a, vs, by rw [List.getElem?_append_left hk]; exact w1, w2.keep fun o ho => h3 a o (fun z => ?_) ho, w3.mono ⟨_, rfl⟩ h4⟩
      obtain ⟨i, j, z1, z2⟩ := subA_mem hb z
      have := nodup_get c.nd w1 z2
      subst this
      exact hj (List.mem_of_getElem? z1)
    · cases c0 with
      | gone => cases q4
      | nd kd0 es0 =>
        cases q4
        obtain ⟨a, vs, w1, w2, w3⟩ := ow.cells i kd es0 q3
        rw [← c.len]
        exact ⟨a, vs, by rw [q5]; exact w1, w2, ves_out hb h1 w3⟩
  · obtain ⟨v, w1, w2⟩ := c.slots i e q
    exact ⟨v, w1, w2.mono ⟨_, rfl⟩ h4⟩
/-- f(..): js the cells that go along -/
theorem je_callS {a : Expr} {es : List Expr} {Φ : E → S → Prop} {pos p : Pos} {x : Str} {k B : Nat} {R : RS} (cb : CbS X x k R) (bx : Bx X B) (hB : k ≤ B)
    (h : JA X F (a :: es) s fun vs s1 => ∃ js ce es0, Goes s1 js ce ∧ vs = es0.map (E.ren (jsF js s1.ce.length)) ∧ es0.all (E.lt js.length) = true ∧ R ce es0 fun e ce' => Φ (e.ren (jsF js s1.ce.length)) (s1.back js ce')) (hdb : (x == ("__debug__" : Str)) = false := by decide)
    (he : starEach (a :: es) X.env = (false, eval a X.env) :: starEach es X.env := by rfl) (hpl : (backTo pos (starEach es X.env)).any (·.1) = false := by rfl) : JE X F (.Call (.Name x p) (a :: es) [] pos) s Φ := by
  obtain ⟨f, fd, ps, h1, h2, h3, h4⟩ := cb.ex
  refine je_of (pe_call h4 (bx.room.mono hB) cb.gl h1 h2 h3 .nil pass0 (pa_sem X _) hdb he hpl) fun as G H σ Q c kk => h as G H σ _ c fun vs as1 G1 H1 es1 s1 c1 x1 ves ⟨js, ce, es0, g, q1, q2, hR⟩ => ?_
  rw [List.append_nil]
  subst q1
  have hb : ∀ j ∈ js, j < as1.length := fun j hj => by rw [c1.len]; exact g.2.1 j hj
  refine ⟨subA as1 js, ce, es0, G1, c1.sub, c1.goes g, ves_in hb q2 ves, cb.mono ce es0 _ _ (fun e ce' hr v as' G' H' w1 w2 w3 w4 w5 w6 ow ve => ?_) hR⟩
  have c2 := c1.ret g w1 w2 w3 w4 w5 w6 ow
  have ve2 := ve_out hb w1 ve
  rw [c1.len] at ve2
  exact kk v _ G' H' _ _ c2 (x1.trans ⟨⟨_, rfl⟩, w4⟩) ve2 hr
end DL
namespace DL
open PySem PySem.Spec PyProof.Rows L2
/-! ### defs whose first arguments are owned, their members frozen -/
abbrev RCs := List (Kd × List D) → List D → (Rt → List (Kd × List D) → Prop) → Prop
def ceOf (os : List (Kd × List D)) : List Cell := os.map fun o => Cell.nd o.1 (o.2.map E.d)
def rPost (n : Nat) (post : E → List Cell → Prop) (r : Rt) (os' : List (Kd × List D)) : Prop := os'.length = n → match r with
  | .dat x => post (.d x) (ceOf os')
  | .new kd ds => post (.r n) (ceOf os' ++ [.nd kd (ds.map .d)])
def RSn (R : RCs) : RS := fun ce es post => ∃ os ds, ce = ceOf os ∧ es = (List.range os.length).map E.r ++ ds.map E.d ∧ R os ds (rPost os.length post)
def MonoN (R : RCs) : Prop := ∀ os ds p q, (∀ r c, p r c → q r c) → R os ds p → R os ds q
theorem MonoN.s {R : RCs} (m : MonoN R) : MonoS (RSn R) := fun ce es p q h ⟨os, ds, e1, e2, hR⟩ => ⟨os, ds, e1, e2, m os ds _ _ (fun r c z hl => by
  have z := z hl
  cases r with
  | dat x => exact h _ _ z
  | new kd d2 => exact h _ _ z) hR⟩
/-- what stands in the first cells -/
def Owns (s : S) : Nat → List (Kd × List D) → Prop
  | _, [] => True
  | i, o :: r => (∃ es, nth s.ce i = some (.nd o.1 es) ∧ dsOf es = some o.2) ∧ Owns s (i + 1) r
theorem Owns.get {s : S} : ∀ {os : List (Kd × List D)} {i k : Nat} {o : Kd × List D}, Owns s i os → os[k]? = some o → s.ce[i + k]? = some (.nd o.1 (o.2.map .d))
  | [], _, _, _, _, h => by simp at h
  | o0 :: r, i, 0, o, ⟨⟨es, h1, h2⟩, _⟩, h => by
    simp at h
    subst h
    rw [nth_eq] at h1
    rw [Nat.add_zero, h1, dsOf_eq h2]
  | o0 :: r, i, k + 1, o, ⟨_, h2⟩, h => by
    simp at h
    have := h2.get h
    rw [Nat.add_assoc, Nat.add_comm 1 k] at this
    exact this
theorem ceOf_get {os : List (Kd × List D)} {i : Nat} {cl : Cell} (h : (ceOf os)[i]? = some cl) : ∃ o, os[i]? = some o ∧ cl = .nd o.1 (o.2.map .d) := by
  unfold ceOf at h
  rw [List.getElem?_map] at h
  cases e : os[i]? with
  | none => rw [e] at h; cases h
  | some o => rw [e] at h; cases h; exact ⟨o, rfl, rfl⟩
theorem lt_ds (n : Nat) (ds : List D) : (ds.map E.d).all (E.lt n) = true := by
  rw [List.all_map, List.all_eq_true]
  intro d _
  rfl
theorem ltB_ceOf (n : Nat) (os : List (Kd × List D)) : (ceOf os).all (Cell.ltB n) = true := by
  unfold ceOf
  rw [List.all_map, List.all_eq_true]
  intro o _
  exact lt_ds n o.2
section
variable {P : Program} {w : World} {K : PySem.W.Frag} {mg : Str → Option Value} {base : Heap} {x qual : Str} {st : Stmt} {f : Addr} {fd : FuncData} {N ps : List Str} {k : Nat}
/-- the body's end tells what goes back: the first cells, and more if wanted -/
theorem fn_S2 {R : RS} (F : Fun K x qual st f fd) (S : FnScope N ps (defScope st)) (hlen : ∀ ce es post, R ce es post → es.length = ps.length)
    (body : ∀ (X : Cx) (F : Fr) (ce : List Cell) (es : List E) (post : E → List Cell → Prop), XIs X P w K mg base N (defScope st) k → (∀ y, X.fn y = true) → X.H_0 = F.H0 → R ce es post → JSs X F (defBody st) (entry N es ce ce.length)
      { nx := fun s => ∃ r ce0, Goes s (List.range ce.length ++ r) ce0 ∧ post (.d .non) ce0, rt := fun e s => ∃ r ce0 e0, Goes s (List.range ce.length ++ r) ce0 ∧ e = e0.ren (jsF (List.range ce.length ++ r) s.ce.length) ∧ e0.lt (ce.length + r.length) = true ∧ post e0 ce0 }) :
    FnOk P w K mg base CX0 (k + 1) f fd ps (spS K R) := by
  refine F.ok S (fun vs H Q E h => ?_) fun cdv A outer s H vs Q Ex hr h => ?_
  · obtain ⟨as, ce, es, G, _, _, ve, hR⟩ := h
    rw [Paired.length ve]; exact hlen ce es _ hR
  · obtain ⟨as, ce, es, G, sg, ow, ve, hR⟩ := h
    refine ⟨_, pss_sem _ _, ?_⟩
    refine body _ ⟨G, H, as⟩ ce es _ ⟨rfl, rfl, rfl, rfl, rfl, rfl, rfl, rfl, S.nd, rfl, hr⟩ (fun _ => rfl) rfl hR as G H _ _ ?_ ?_
    · refine ⟨sg, Same.refl _, fun _ h _ => h, fun _ _ h _ => h, ow.len, List.prefix_refl _, ow.nd, ow.own, fun a h => .inl h, ow.there, ow.cells, fun i e h => slots_entry ve N h, ?_, ow.len⟩
      show (es.map some ++ List.replicate (N.length - es.length) none).length = (L2.start N vs).length
      unfold L2.start
      simp [Paired.length ve]
    · have key : ∀ {as' : List Addr} {G' H' : Hp} {σ' : L2.St} {s' : DL.S} {r : List Nat} {ce0 : List Cell}, Cz (cxOf CX0 P w K mg base N qual (defScope st) f cdv A outer s H Ex).nox ⟨G, H, as⟩ as' G' H' σ' s' → Goes s' (List.range ce.length ++ r) ce0 →
          as <+: subA as' (List.range ce.length ++ r) ∧ (∀ a ∈ subA as' (List.range ce.length ++ r), a ∈ as ∨ H a = none) ∧ (∀ b o, b ∉ as → H b = some o → H' b = some o) := fun {as' G' H' σ' s' r ce0} c g => by
        refine ⟨?_, fun a ha => ?_, fun b o hb q => c.frame b o q hb⟩
        · unfold subA
          rw [List.map_append]
          refine ⟨_, congrArg (· ++ r.map fun j => as'.getD j 0) ?_⟩
          apply List.ext_getElem?
          intro i
          by_cases hi : i < as.length
          · rw [List.getElem?_map, List.getElem?_range (by rw [← ow.len]; exact hi)]
            have := pre_get c.pre (List.getElem?_eq_getElem hi)
            rw [List.getElem?_eq_getElem hi]
            simp [List.getD, this]
          · rw [List.getElem?_eq_none (by omega), List.getElem?_eq_none (by rw [List.length_map, List.length_range, ← ow.len]; omega)]
        · obtain ⟨i, j, _, h⟩ := subA_mem (fun j hj => by rw [c.len]; exact g.2.1 j hj) ha
          exact c.fresh a (List.mem_of_getElem? h)
      refine ⟨fun as' G' H' σ' s' c x ⟨r, ce0, g, q⟩ => ?_, fun v as' G' H' σ' e' s' c x ve ⟨r, ce0, e0, g, h1, h2, q⟩ => ?_, fun _ _ _ _ _ _ _ q => q.elim, fun _ _ _ _ _ _ _ q => q.elim⟩
      · obtain ⟨k1, k2, k3⟩ := key c g
        exact q .non _ G' H' k1 k2 k3 c.base c.sub c.new (c.goes g) .non
      · obtain ⟨k1, k2, k3⟩ := key c g
        subst h1
        refine q v _ G' H' k1 k2 k3 c.base c.sub c.new (c.goes g) (ve_in (fun j hj => by rw [c.len]; exact g.2.1 j hj) ?_ ve)
        rw [List.length_append, List.length_range]; exact h2
def RtN (n : Nat) (post : Rt → Prop) : E → S → Prop
  | .d x, _ => post (.dat x)
  | .r k, s => ∃ kd es ds, nth s.ce k = some (.nd kd es) ∧ dsOf es = some ds ∧ n ≤ k ∧ post (.new kd ds)
theorem goes_owns {s : S} {os' : List (Kd × List D)} (h : Owns s 0 os') : Goes s (List.range os'.length) (ceOf os') := by
  have hg : ∀ {k : Nat} {o : Kd × List D}, os'[k]? = some o → s.ce[k]? = some (.nd o.1 (o.2.map .d)) := fun {k o} q => by
    have := h.get q
    rw [Nat.zero_add] at this
    exact this
  refine ⟨List.nodup_range, fun j hj => ?_, by rw [List.length_range]; unfold ceOf; rw [List.length_map], fun i j cl h1 h2 => ?_, ltB_ceOf _ _⟩
  · have hj := List.mem_range.mp hj
    exact (List.getElem?_eq_some_iff.mp (hg (List.getElem?_eq_getElem hj))).1
  · obtain ⟨o, h3, rfl⟩ := ceOf_get h2
    have hi := (List.getElem?_eq_some_iff.mp h3).1
    rw [List.getElem?_range hi] at h1
    cases h1
    rw [hg h3]
    show _ = some (Cell.nd o.1 ((o.2.map E.d).map _))
    rw [ren_map]
theorem goes_owns1 {s : S} {os' : List (Kd × List D)} (h : Owns s 0 os') {k : Nat} {kd : Kd} {ds : List D} (hk : s.ce[k]? = some (.nd kd (ds.map .d))) (hn : os'.length ≤ k) : Goes s (List.range os'.length ++ [k]) (ceOf os' ++ [.nd kd (ds.map .d)]) := by
  obtain ⟨g1, g2, g3, g4, g5⟩ := goes_owns h
  have hl : (ceOf os').length = os'.length := by unfold ceOf; rw [List.length_map]
  refine ⟨?_, fun j hj => ?_, by rw [List.length_append, List.length_append, g3]; rfl, fun i j cl h1 h2 => ?_, ?_⟩
  · rw [List.nodup_append]
    exact ⟨g1, by simp, fun a ha b hb e => by
      have : b = k := by simpa using hb
      subst this; subst e
      have := List.mem_range.mp ha
      omega⟩
  · rcases List.mem_append.mp hj with hj | hj
    · exact g2 j hj
    · have : j = k := by simpa using hj
      subst this
      exact (List.getElem?_eq_some_iff.mp hk).1
  · have cr : ∀ (f : Nat → Nat) (o : Kd × List D), (Cell.nd o.1 (o.2.map E.d)).ren f = .nd o.1 (o.2.map .d) := fun f o => by show Cell.nd o.1 _ = _; rw [ren_map]
    by_cases hi : i < os'.length
    · rw [List.getElem?_append_left (by rw [List.length_range]; exact hi)] at h1
      rw [List.getElem?_append_left (by omega)] at h2
      obtain ⟨o, h3, rfl⟩ := ceOf_get h2
      have := g4 i j _ h1 h2
      rw [cr] at this ⊢
      exact this
    · rw [List.getElem?_append_right (by rw [List.length_range]; omega)] at h1
      rw [List.getElem?_append_right (by omega), hl] at h2
      rw [List.length_range] at h1
      have h0 : i - os'.length = 0 := by
        have := (List.getElem?_eq_some_iff.mp h1).1
        simpa using this
      rw [h0] at h1 h2
      simp at h1 h2
      subst h1 h2
      rw [hk]
      exact congrArg some (cr _ (kd, ds)).symm
  · rw [List.all_append, ltB_ceOf]
    show (true && ([Cell.nd kd (ds.map E.d)]).all _) = true
    simp [Cell.ltB, lt_ds]
    intro x _; rfl
theorem fn_N {R : RCs} (F : Fun K x qual st f fd) (S : FnScope N ps (defScope st)) (hlen : ∀ os ds post, R os ds post → os.length + ds.length = ps.length)
    (body : ∀ (X : Cx) (F : Fr) (os : List (Kd × List D)) (ds : List D) (post : Rt → List (Kd × List D) → Prop), XIs X P w K mg base N (defScope st) k → (∀ y, X.fn y = true) → X.H_0 = F.H0 → R os ds post → JSs X F (defBody st) (entry N ((List.range os.length).map .r ++ ds.map .d) (ceOf os) os.length)
      { nx := fun s => ∃ os', Owns s 0 os' ∧ os'.length = os.length ∧ post (.dat .non) os', rt := fun e s => ∃ os', Owns s 0 os' ∧ os'.length = os.length ∧ RtN os.length (fun r => post r os') e s }) :
    FnOk P w K mg base CX0 (k + 1) f fd ps (spS K (RSn R)) := by
  refine fn_S2 F S (fun ce es post ⟨os, ds, e1, e2, hR⟩ => ?_) fun X F ce es post hX hfn hH ⟨os, ds, e1, e2, hR⟩ => ?_
  · rw [e2, List.length_append, List.length_map, List.length_range, List.length_map]; exact hlen os ds _ hR
  · subst e1 e2
    have hl : (ceOf os).length = os.length := by unfold ceOf; rw [List.length_map]
    rw [hl]
    refine JSs.mono (body X F os ds _ hX hfn hH hR) (fun s ⟨os', h2, h1, h3⟩ => ?_) (fun e s ⟨os', h2, h1, h3⟩ => ?_) (fun _ z => z) (fun _ z => z)
    · have g := goes_owns h2
      rw [h1] at g
      exact ⟨[], _, by rw [List.append_nil]; exact g, h3 h1⟩
    · cases e with
      | d y =>
        have g := goes_owns h2
        rw [h1] at g
        exact ⟨[], _, .d y, by rw [List.append_nil]; exact g, rfl, rfl, h3 h1⟩
      | r j =>
        obtain ⟨kd, es, d2, q1, q2, q3, q4⟩ := h3
        rw [nth_eq, dsOf_eq q2] at q1
        have g := goes_owns1 h2 q1 (by rw [h1]; exact q3)
        rw [h1] at g
        refine ⟨[j], _, .r os.length, g, ?_, ?_, q4 h1⟩
        · show E.r j = E.r (jsF _ _ os.length)
          congr 1
          unfold jsF
          rw [nth_eq, List.getElem?_append_right (by rw [List.length_range]; exact Nat.le_refl _)]
          simp
        · simp [E.lt]
end
/-! the call -/
variable {X : Cx} {F : Fr} {s : S}
def OwnsJ (s : S) : List Nat → List (Kd × List D) → Prop
  | [], [] => True
  | j :: js, o :: r => (∃ es, nth s.ce j = some (.nd o.1 es) ∧ dsOf es = some o.2) ∧ OwnsJ s js r
  | _, _ => False
theorem OwnsJ.len {s : S} : ∀ {js : List Nat} {os : List (Kd × List D)}, OwnsJ s js os → js.length = os.length
  | [], [], _ => rfl
  | _ :: _, _ :: _, ⟨_, h⟩ => by rw [List.length_cons, List.length_cons, h.len]
  | [], _ :: _, h => h.elim
  | _ :: _, [], h => h.elim
theorem OwnsJ.get {s : S} : ∀ {js : List Nat} {os : List (Kd × List D)} {i j : Nat}, OwnsJ s js os → js[i]? = some j → ∃ o, os[i]? = some o ∧ s.ce[j]? = some (.nd o.1 (o.2.map .d))
  | [], [], _, _, _, h => by simp at h
  | [], _ :: _, _, _, h, _ => h.elim
  | _ :: _, [], _, _, h, _ => h.elim
  | j0 :: js, o :: r, 0, j, ⟨⟨es, h1, h2⟩, _⟩, h => by
    simp at h
    subst h
    rw [nth_eq] at h1
    exact ⟨o, rfl, by rw [h1, dsOf_eq h2]⟩
  | j0 :: js, o :: r, i + 1, j, ⟨_, h2⟩, h => by
    simp at h
    obtain ⟨o', q1, q2⟩ := h2.get h
    exact ⟨o', by simpa using q1, q2⟩
def S.puts (s : S) : List Nat → List (Kd × List D) → S
  | [], _ => s
  | _ :: _, [] => s
  | j :: js, o :: r => S.puts (s.put j o.1 (o.2.map .d)) js r
termination_by structural js => js
theorem puts_eq : ∀ {js : List Nat} {os : List (Kd × List D)} {s : S}, s.puts js os = ⟨s.sl, setMany s.ce js (ceOf os), s.ar⟩
  | [], _, _ => rfl
  | _ :: _, [], _ => rfl
  | j :: js, o :: r, s => by
    show S.puts (s.put j o.1 (o.2.map .d)) js r = _
    rw [puts_eq]
    rfl
theorem ren_ceOf (f : Nat → Nat) (os : List (Kd × List D)) : (ceOf os).map (Cell.ren f) = ceOf os := by
  unfold ceOf
  rw [List.map_map]
  apply List.map_congr_left
  intro o _
  show Cell.nd o.1 _ = _
  rw [ren_map]
theorem je_callN {a : Expr} {es : List Expr} {Φ : E → S → Prop} {pos p : Pos} {x : Str} {k B : Nat} {R : RCs} (cb : CbS X x k (RSn R)) (bx : Bx X B) (hB : k ≤ B)
    (h : JA X F (a :: es) s fun vs s1 => ∃ js os ds, vs = js.map .r ++ ds.map .d ∧ js.Nodup ∧ OwnsJ s1 js os ∧ R os ds fun r os' => RtΦ Φ (s1.puts js os') r) (hdb : (x == ("__debug__" : Str)) = false := by decide)
    (he : starEach (a :: es) X.env = (false, eval a X.env) :: starEach es X.env := by rfl) (hpl : (backTo pos (starEach es X.env)).any (·.1) = false := by rfl) (hm : MonoN R := by assumption) : JE X F (.Call (.Name x p) (a :: es) [] pos) s Φ := by
  refine je_callS cb bx hB (fun as G H σ Q c kk => h as G H σ Q c fun vs as' G' H' es' s1 c' x ve ⟨js, os, ds, e1, nd, ow, hR⟩ => kk vs as' G' H' es' s1 c' x ve ?_) hdb he hpl
  have hl := ow.len
  have hb : ∀ j ∈ js, j < s1.ce.length := fun j hj => by
    obtain ⟨i, hi⟩ := List.getElem?_of_mem hj
    obtain ⟨o, _, h2⟩ := ow.get hi
    exact (List.getElem?_eq_some_iff.mp h2).1
  have hcl : (ceOf os).length = os.length := by unfold ceOf; rw [List.length_map]
  refine ⟨js, ceOf os, (List.range os.length).map .r ++ ds.map .d, ⟨nd, hb, by rw [hl, hcl], fun i j cl h1 h2 => ?_, ltB_ceOf _ _⟩, ?_, ?_, os, ds, rfl, rfl, hm os ds _ _ (fun r os' hr hl' => ?_) hR⟩
  · obtain ⟨o, h3, rfl⟩ := ceOf_get h2
    obtain ⟨o', h4, h5⟩ := ow.get h1
    rw [h3] at h4
    cases h4
    rw [h5]
    show _ = some (Cell.nd o.1 _)
    rw [ren_map]
  · rw [e1, List.map_append, ren_map, List.map_map]
    congr 1
    rw [← hl]
    apply List.ext_getElem?
    intro i
    by_cases hi : i < js.length
    · rw [List.getElem?_map, List.getElem?_map, List.getElem?_range hi, jsF_in (len := s1.ce.length) hi]
      rfl
    · rw [List.getElem?_eq_none (by rw [List.length_map]; omega), List.getElem?_eq_none (by rw [List.length_map, List.length_range]; omega)]
  · rw [List.all_append, lt_ds, Bool.and_true, List.all_map, List.all_eq_true]
    intro i hi
    have := List.mem_range.mp hi
    show decide (i < js.length) = true
    rw [hl]; exact decide_eq_true this
  · have hcl' : (ceOf os').length = os'.length := by unfold ceOf; rw [List.length_map]
    cases r with
    | dat y =>
      show Φ (.d y) (s1.back js (ceOf os'))
      have : s1.back js (ceOf os') = s1.puts js os' := by
        unfold S.back
        rw [puts_eq, List.take_of_length_le (by omega), List.drop_of_length_le (by omega), ren_ceOf, List.map_nil, List.append_nil]
      rw [this]; exact hr
    | new kd d2 =>
      show Φ (E.r (jsF js s1.ce.length os.length)) (s1.back js (ceOf os' ++ [.nd kd (d2.map .d)]))
      have e2 : jsF js s1.ce.length os.length = (s1.puts js os').ce.length := by
        rw [jsF_out (by omega), hl, Nat.sub_self, puts_eq]
        show _ = (setMany _ _ _).length
        rw [setMany_len]; rfl
      have e3 : s1.back js (ceOf os' ++ [.nd kd (d2.map .d)]) = (s1.puts js os').push kd (d2.map .d) := by
        unfold S.back
        rw [List.take_left' (by omega), List.drop_left' (by omega), ren_ceOf, puts_eq]
        show (⟨_, _ ++ [Cell.nd kd _], _⟩ : S) = ⟨_, _ ++ [Cell.nd kd _], _⟩
        rw [ren_map]
      rw [e2, e3]; exact hr
end DL
namespace DL
open PySem PySem.Spec PyProof.Rows L2
variable {X : Cx} {F : Fr} {s : S}
section
variable {e a b c : Expr} {es rest : List Expr} {Φ : E → S → Prop} {pos p p2 : Pos} {x : Str} {k B : Nat}
/-! ### owned arguments, step by step -/
def OnK (s : S) (vs : List E) (Q : List Nat → List (Kd × List D) → List D → Prop) : Prop := ∃ js os ds, vs = js.map .r ++ ds.map .d ∧ OwnsJ s js os ∧ Q js os ds
theorem on_ds {vs : List E} {ds : List D} {Q : List Nat → List (Kd × List D) → List D → Prop} (h : dsOf vs = some ds) (q : Q [] [] ds) : OnK s vs Q := ⟨[], [], ds, dsOf_eq h, trivial, q⟩
theorem on_r {vs : List E} {j : Nat} {kd : Kd} {es : List E} {ds : List D} {Q : List Nat → List (Kd × List D) → List D → Prop} (h1 : nth s.ce j = some (.nd kd es)) (h2 : dsOf es = some ds) (q : OnK s vs fun js os dd => Q (j :: js) ((kd, ds) :: os) dd) : OnK s (.r j :: vs) Q := by
  obtain ⟨js, os, dd, e1, e2, q⟩ := q
  exact ⟨j :: js, (kd, ds) :: os, dd, by rw [e1]; rfl, ⟨⟨es, h1, h2⟩, e2⟩, q⟩
theorem je_callNK {R : RCs} (cb : CbS X x k (RSn R)) (bx : Bx X B) (hB : k ≤ B) (hm : MonoN R)
    (h : JA X F (a :: es) s fun vs s1 => OnK s1 vs fun js os ds => js.Nodup ∧ R os ds fun r os' => RtΦ Φ (s1.puts js os') r) (hdb : (x == ("__debug__" : Str)) = false := by decide)
    (he : starEach (a :: es) X.env = (false, eval a X.env) :: starEach es X.env := by rfl) (hpl : (backTo pos (starEach es X.env)).any (·.1) = false := by rfl) : JE X F (.Call (.Name x p) (a :: es) [] pos) s Φ :=
  je_callN cb bx hB (fun as G H σ Q c kk => h as G H σ Q c fun vs as' G' H' es' s1 c' x ve ⟨js, os, ds, e1, e2, nd, q⟩ => kk vs as' G' H' es' s1 c' x ve ⟨js, os, ds, e1, nd, e2, q⟩) hdb he hpl hm
/-! ### in a list of texts -/
theorem inV_strs {z : Str} : ∀ ts : List Str, inV (.str z) (ts.map V.str) = decide (z ∈ ts)
  | [] => by simp [inV]
  | t :: ts => by
    have ih := inV_strs (z := z) ts
    unfold inV at ih ⊢
    rw [List.map_cons, List.any_cons, ih]
    by_cases h : z = t
    · subst h; simp [eqV]
    · have h2 : ¬ t = z := fun q => h q.symm
      simp [eqV, h, h2]
theorem flat_strs (ts : List Str) : (ts.map V.str).all flatV = true := by rw [List.all_map, List.all_eq_true]; intro t _; rfl
theorem reps_str {K : PySem.W.Frag} {G : Hp} : ∀ {ts : List Str} {vs : List V}, Reps K G vs (ts.map D.str) → vs = ts.map V.str
  | [], _, .nil => rfl
  | t :: ts, _, .cons a b => by cases a; rw [reps_str b]; rfl
theorem jr_inStrs {e2 : E} {z : Str} {kd : Kd} {ts : List Str} (h : s.node e2 = some (kd, (ts.map D.str).map .d)) (hk : kd = .lst ∨ kd = .tup) (q : Φ (.d (.bl (decide (z ∈ ts)))) s) : JR X F (compareOp .In) (.d (.str z)) e2 s Φ :=
  jr_of op_in_seq fun as G H σ x y Q c v1 v2 kk => by
    cases v1
    obtain ⟨a, vs, rfl, n, ves⟩ := c.node v2 h
    obtain rfl := reps_str ves.reps
    refine ⟨a, _, rfl, ?_, rfl, flat_strs ts, ?_⟩
    · rcases hk with rfl | rfl
      · exact .inl n
      · exact .inr n
    · rw [inV_strs]; exact kk _ as G H _ s c (Ext.refl _ _) (Rep.bl _) q
theorem jr_ninStrs {e2 : E} {z : Str} {kd : Kd} {ts : List Str} (h : s.node e2 = some (kd, (ts.map D.str).map .d)) (hk : kd = .lst ∨ kd = .tup) (q : Φ (.d (.bl (!decide (z ∈ ts)))) s) : JR X F (compareOp .NotIn) (.d (.str z)) e2 s Φ :=
  jr_of op_notIn_seq fun as G H σ x y Q c v1 v2 kk => by
    cases v1
    obtain ⟨a, vs, rfl, n, ves⟩ := c.node v2 h
    obtain rfl := reps_str ves.reps
    refine ⟨a, _, rfl, ?_, rfl, flat_strs ts, ?_⟩
    · rcases hk with rfl | rfl
      · exact .inl n
      · exact .inr n
    · rw [inV_strs]; exact kk _ as G H _ s c (Ext.refl _ _) (Rep.bl _) q
/-! ### ''.join(a list of texts) -/
theorem je_join {o : Expr} {apos : Pos} (h : JE X F o s fun eo s1 => ∃ sep, eo = .d (.str sep) ∧ JE X F a s1 fun e1 s2 => ∃ kd ts, s2.node e1 = some (kd, (ts.map D.str).map .d) ∧ (kd = .lst ∨ kd = .tup) ∧ (ts.map (·.length)).sum + ts.length * sep.length ≤ 16777216 ∧ Φ (.d (.str (Txt.join sep ts))) s2)
    (ns : NoStar a := by intro _ _; rfl) (hbase : attributeBase o "join" X.env (eval o X.env) = eval o X.env := by rfl) (hline : (apos.endLine == pos.line) = true := by rfl) : JE X F (.Call (.Attribute o "join" apos) [a] [] pos) s Φ :=
  je_of (pe_join (pe_sem X o) (pe_sem X a) (ns _ _) hbase hline) fun as G H σ Q c k => h as G H σ _ c fun v as1 G1 H1 eo s1 c1 x1 ve ⟨sep, q1, h1⟩ => by
    subst q1
    cases ve
    refine ⟨⟨sep, rfl⟩, h1 as1 G1 H1 σ _ c1 fun v2 as2 G2 H2 e2 s2 c2 x2 ve2 ⟨kd, ts, q2, q3, q4, q5⟩ => ?_⟩
    obtain ⟨a, vs, rfl, n, ves⟩ := c2.node ve2 q2
    obtain rfl := reps_str ves.reps
    refine ⟨sep, a, ts, rfl, rfl, ?_, q4, k _ as2 G2 H2 _ s2 c2 (x1.trans x2) (Rep.str _) q5⟩
    rcases q3 with rfl | rfl
    · exact .inl n
    · exact .inr n
/-! ### a, b = a list -/
theorem jg_lst {k1 : Nat} {v : E} {vs : List E} {Φ : S → Prop} (bx : Bx X B) (hn : s.node v = some (.lst, vs)) (hl : vs.length = es.length) (h : JGs X F es vs s Φ)
    (hn2 : (assignEach es X.env).length = es.length := by rfl) (hst : (assignEach es X.env).findIdx? (·.1) = none := by rfl) : JG X F (.Tuple es k1 p) v s Φ :=
  fun as G H σ u Q c ve k => by
    obtain ⟨a, ws, rfl, n, we⟩ := c.node ve hn
    exact PG.sem (pg_lst (n := es.length) bx.calm (pgs_sem X es) hn2 hst) ⟨a, ws, rfl, n, by rw [Paired.length we, hl], fun pins st us I r => h as G H σ ws Q c we k pins st us I r⟩
/-! ### list + list, slices -/
theorem op_catS : OpR X (binaryOp .Add) (fun x y H Q => ∃ l b xs zs, x = .ref l ∧ y = .ref b ∧ SqL X.K H l xs ∧ SqL X.K H b zs ∧ xs.length + zs.length ≤ sizeLine ∧ ∀ p, H p = none → Q (.ref p) (upd H p (.lst (xs ++ zs)))) := by
  intro pins s σ H x y v u Q I rx ry h
  obtain ⟨l, b, xs, zs, rfl, rfl, hH, hB, hz, q⟩ := h
  cases rx
  cases ry
  obtain ⟨its, r, ⟨⟨cls, dd, data, sl⟩, n, e, e3, e4, e5⟩, z⟩ := I.list hH
  obtain ⟨its2, r2, ⟨⟨cls2, dd2, data2, sl2⟩, n2, f, f3, f4, f5⟩, z2⟩ := I.list hB
  simp only at e3 e4 e5 f3 f4 f5
  subst e3 e4 e5 f3 f4 f5
  have hsz : its.length + its2.length ≤ sizeLine := by rw [← r.length, ← r2.length]; exact hz
  refine concat_meets ⟨_, e, rfl⟩ ⟨_, f, rfl⟩ noFill_list_add seq_list_add PySem.F.slot_list_add PySem.F.entry_list_add (PySem.F.args_list_add_2 _ _) (list_addW l b its.toArray its2.toArray n n2 .none .none sl sl2 (by simpa using hsz)) ⟨e, f, ?_⟩
  have ea : its.toArray ++ its2.toArray = (its ++ its2).toArray := by simp
  rw [ea]
  exact ⟨.ref _, _, I.lnew (t' := s.toks) (r.append r2) (by rw [List.length_append]; omega), rfl, q _ I.fresh⟩
/-- xs + ys, lists: a new one, frozen -/
theorem jr_cat {e1 e2 : E} {ds1 ds2 : List D} (h1 : s.node e1 = some (.lst, ds1.map .d)) (h2 : s.node e2 = some (.lst, ds2.map .d)) (hl : ds1.length + ds2.length ≤ sizeLine) (q : Φ (.d (.nd .lst (ds1 ++ ds2))) s) : JR X F (binaryOp .Add) e1 e2 s Φ :=
  jr_of op_catS fun as G H σ x y Q c v1 v2 k => by
    obtain ⟨a, vs, rfl, n1, w1⟩ := c.node v1 h1
    obtain ⟨b, ws, rfl, n2, w2⟩ := c.node v2 h2
    refine ⟨a, b, vs, ws, rfl, rfl, n1, n2, by rw [w1.reps.length, w2.reps.length]; exact hl, fun p hp => ?_⟩
    have sg : Same G (upd G p (.lst (vs ++ ws))) := same_new (c.gnone hp)
    exact k _ as _ _ (.d (.nd .lst (ds1 ++ ds2))) s (c.addG hp) ⟨List.prefix_refl _, sg⟩ (.nd (SqL.of upd_same) ((w1.reps.append w2.reps).mono sg)) q
/-- xs[lo:hi] -/
def cutD (ds : List D) (lo hi : Option Int) : List D := (ds.drop (HT.sIx ds.length 0 lo)).take (HT.sIx ds.length ds.length hi - HT.sIx ds.length 0 lo)
theorem reps_cut {K : PySem.W.Frag} {G : Hp} {vs : List V} {ds : List D} (r : Reps K G vs ds) (lo hi : Option Int) : Reps K G (cutV vs lo hi) (cutD ds lo hi) := by
  unfold cutV cutD
  rw [r.length]
  exact (r.drop _).take _
theorem je_sliceL {lo hi : Option Expr} {p2 : Pos} (h : JE X F a s fun e s1 => JO X F lo s1 fun l s2 => JO X F hi s2 fun u s3 => ∃ ds, s3.node e = some (.lst, ds.map .d) ∧ Φ (.d (.nd .lst (cutD ds l u))) s3) : JE X F (.Subscript a (.Slice lo hi none p2) pos) s Φ :=
  je_of (pe_slice sl_list (pe_sem X a) (po_sem X lo) (po_sem X hi)) fun as G H σ Q c k => h as G H σ _ c fun v as1 G1 H1 e1 s1 c1 x1 ve h1 => jo_run h1 c1 fun l as2 G2 H2 s2 c2 x2 h2 => jo_run h2 c2 fun u as3 G3 H3 s3 c3 x3 ⟨ds, q1, q2⟩ => by
    obtain ⟨a, vs, rfl, n, w⟩ := c3.node ((x2.trans x3).ve ve) q1
    refine ⟨a, vs, rfl, n, fun p hp => ?_⟩
    have sg : Same G3 (upd G3 p (.lst (cutV vs l u))) := same_new (c3.gnone hp)
    exact k _ as3 _ _ (.d (.nd .lst (cutD ds l u))) s3 (c3.addG hp) (((x1.trans x2).trans x3).trans ⟨List.prefix_refl _, sg⟩) (.nd (SqL.of upd_same) ((reps_cut w.reps l u).mono sg)) q2
end
end DL
namespace DL
open PySem PySem.Spec PyProof.Rows L2
variable {X : Cx} {F : Fr} {s : S}
/-! ### the last cell frozen and dropped -/
def TidyB (s : S) : Bool := s.sl.all (E.ltB s.ce.length) && s.ce.all (Cell.ltB s.ce.length) && decide (s.ar ≤ s.ce.length)
theorem Cz.popT {as' : List Addr} {G' H' : Hp} {σ : L2.St} {kd : Kd} {ds : List D} (c' : Cz X F as' G' H' σ (s.push kd (ds.map .d))) (ht : TidyB s = true) :
    ∃ G2, Cz X F (as'.take s.ce.length) G2 H' σ s ∧ Same G' G2 ∧ ∀ q, as'[s.ce.length]? = some q → Rep X.K G2 (.ref q) (.nd kd ds) := by
  unfold TidyB at ht
  simp only [Bool.and_eq_true, decide_eq_true_eq] at ht
  obtain ⟨⟨t1, t2⟩, t3⟩ := ht
  have w : Wk (s.push kd (ds.map .d)) s := ⟨fun i e h => h, rfl, ⟨_, rfl⟩, rfl, t3⟩
  have c2 := c'.weak' w t1 t2
  obtain ⟨q, hq⟩ : ∃ q, as'[s.ce.length]? = some q := by
    have : s.ce.length < as'.length := by
      rw [c'.len]
      show _ < (s.ce ++ [Cell.nd kd (ds.map .d)]).length
      simp
    exact ⟨_, List.getElem?_eq_getElem this⟩
  have hce : (s.push kd (ds.map .d)).ce[s.ce.length]? = some (.nd kd (ds.map .d)) := by
    show (s.ce ++ [Cell.nd kd (ds.map .d)])[s.ce.length]? = _
    rw [List.getElem?_append_right (Nat.le_refl _)]; simp
  obtain ⟨q', vs, g1, g2, g3⟩ := c'.cells _ _ _ hce
  rw [hq] at g1
  cases g1
  obtain ⟨o, ho⟩ := g2.some
  have gn : G' q = none := c'.own _ _ _ _ hq hce
  have nin : q ∉ as'.take s.ce.length := fun z => by
    obtain ⟨j, hj⟩ := List.getElem?_of_mem z
    have l3 := (List.getElem?_eq_some_iff.mp hj).1
    rw [List.length_take] at l3
    rw [List.getElem?_take_of_lt (by omega)] at hj
    have := nodup_get c'.nd hj hq
    omega
  have h0 : F.H0 q = none := (c'.fresh q (List.mem_of_getElem? hq)).resolve_left fun z => by
    have := c2.pre.subset z
    exact nin this
  refine ⟨upd G' q o, c2.frzG ho gn nin h0, same_new gn, fun q2 hq2 => ?_⟩
  rw [hq] at hq2
  cases hq2
  have cg : CellAt (upd G' q o) q vs kd := g2.keep fun u z => by rw [upd_same, ← ho, z]
  exact .nd cg.node (g3.reps.mono (same_new gn))
section
variable {e a b c elt iter : Expr} {es rest ifs : List Expr} {Φ : E → S → Prop} {pos p p2 : Pos} {x : Str} {k B : Nat} {scope : Scope} {own : List (Str × Nat)} {j : Nat}
theorem je_popT (h : JE X F e s fun e1 s1 => ∃ s0 kd ds, e1 = .r s0.ce.length ∧ s1 = s0.push kd (ds.map .d) ∧ s.ce.length ≤ s0.ce.length ∧ TidyB s0 = true ∧ Φ (.d (.nd kd ds)) s0) : JE X F e s Φ := fun as G H σ Q c k =>
  h as G H σ Q c fun v as1 G1 H1 e1 s1 c1 x1 ve ⟨s0, kd, ds, q1, q2, q3, q4, q5⟩ => by
    subst q1 q2
    obtain ⟨G2, c2, sg, rep⟩ := c1.popT q4
    obtain ⟨q, hq, rfl⟩ := ve
    refine k _ _ G2 H1 _ s0 c2 ⟨?_, x1.sub.trans sg⟩ (rep q hq) q5
    obtain ⟨t, rfl⟩ := x1.pre
    rw [List.take_append]
    have : as.length ≤ s0.ce.length := by rw [c.len]; exact q3
    rw [List.take_of_length_le this]
    exact ⟨_, rfl⟩
/-! ### comprehensions whose elements write to owned cells -/
/-- the state in the block -/
def S.blkI (t : S) (ds : List D) (j : Nat) (v : E) : S := (t.push .lst (ds.map .d)).set j v
def LcI (X : Cx) (F : Fr) (tg iter elt : Expr) (scope : Scope) (vs : List Nat) (j : Nat) (s : S) (Θ : List D → S → Prop) : Prop :=
  JI X F tg iter s fun n it s1 => n ≤ 16000000 ∧ ∃ In : Nat → List D → S → Prop, In 0 [] (s1.wipe vs) ∧
    (∀ i v ds t, i < n → it i v → ds.length = i → In i ds t → t.wipe vs = t ∧ t.ce.length = s1.ce.length ∧ ∀ Y, IsBlk X scope Y → JE Y F elt (t.blkI ds j v) fun y s3 => ∃ d t', y = .d d ∧ s3 = t'.blkI ds j v ∧ t'.wipe vs = t' ∧ t'.ce.length = s1.ce.length ∧ In (i + 1) (ds ++ [d]) t') ∧
    ∀ ds t, ds.length = n → In n ds t → t.ce.length = s1.ce.length ∧ Θ ds ⟨s1.sl, t.ce, s1.ar⟩
theorem lc_imp {Θ : List D → S → Prop} (hj : j ∈ own.map (·.2)) {n : Nat} {it : Nat → E → Prop} {s1 : S} {In : Nat → List D → S → Prop} (hn : n ≤ 16000000) (w0 : (s1.wipe (own.map (·.2))).wipe (own.map (·.2)) = s1.wipe (own.map (·.2))) (h0 : In 0 [] (s1.wipe (own.map (·.2))))
    (ht : ∀ i v ds t, i < n → it i v → ds.length = i → In i ds t → t.wipe (own.map (·.2)) = t ∧ t.ce.length = s1.ce.length ∧ ∀ Y, IsBlk X scope Y → JE Y F elt (t.blkI ds j v) fun y s3 => ∃ d t', y = .d d ∧ s3 = t'.blkI ds j v ∧ t'.wipe (own.map (·.2)) = t' ∧ t'.ce.length = s1.ce.length ∧ In (i + 1) (ds ++ [d]) t') :
    let In' : Nat → List E → S → Prop := fun i acc s' => ∃ ds t, ds.length = i ∧ acc = ds.map .d ∧ s' = t.push .lst acc ∧ t.wipe (own.map (·.2)) = t ∧ t.ce.length = s1.ce.length ∧ In i ds t
    In' 0 [] ((s1.wipe (own.map (·.2))).push .lst []) ∧
      (∀ i v acc s', i < n → it i v → In' i acc s' → nth s'.ce s1.ce.length = some (.nd .lst acc) ∧ ∀ Y, IsBlk X scope Y → JTs Y F ([] : List Expr) (s'.set j v) fun b s2 =>
        if b = true then ∀ Y2, IsBlk X scope Y2 → JE Y2 F elt s2 fun y s3 => nth s3.ce s1.ce.length = some (.nd .lst acc) ∧ acc.length < sizeLine ∧ In' (i + 1) (acc ++ [y]) ((s3.put s1.ce.length .lst (acc ++ [y])).wipe (own.map (·.2)))
        else In' (i + 1) acc (s2.wipe (own.map (·.2)))) := by
  intro In'
  have cel : ∀ (t : S) (l : List E), t.ce.length = s1.ce.length → nth (t.push .lst l).ce s1.ce.length = some (.nd .lst l) := fun t l hl => by
    rw [nth_eq]
    show (t.ce ++ [Cell.nd .lst l])[s1.ce.length]? = _
    rw [← hl, List.getElem?_append_right (Nat.le_refl _)]
    simp
  refine ⟨⟨[], _, rfl, rfl, rfl, w0, rfl, h0⟩, ?_⟩
  rintro i v acc s' hi hv ⟨ds, t, hdl, rfl, rfl, hw, hl, hI⟩
  obtain ⟨_, _, hJ⟩ := ht i v ds t hi hv hdl hI
  refine ⟨cel t _ hl, fun Y hY => ?_⟩
  dsimp only [JTs]
  refine L2.iteT ?_
  refine fun Y2 hY2 => (hJ Y2 hY2).mono fun y s3 ⟨d, t', e1, e2, e3, e4, e5⟩ => ?_
  subst e1 e2
  refine ⟨cel t' _ e4, by rw [List.length_map, sizeLine_eq]; omega, ds ++ [d], t', by simp [hdl], by simp, ?_, e3, e4, e5⟩
  have hput : ((t'.push .lst (ds.map .d)).set j v).put s1.ce.length .lst (ds.map .d ++ [.d d]) = (t'.push .lst (ds.map .d ++ [.d d])).set j v := by
    show (⟨_, setN (t'.ce ++ [Cell.nd .lst _]) s1.ce.length _, _⟩ : S) = ⟨_, t'.ce ++ [_], _⟩
    rw [setN_eq, ← e4, List.set_append_right _ _ (Nat.le_refl _)]
    simp
    exact ⟨rfl, rfl⟩
  show (((t'.push .lst (ds.map .d)).set j v).put s1.ce.length .lst (ds.map .d ++ [.d d])).wipe _ = _
  rw [hput, set_wipe hj]
  have e6 : wipeN t'.sl (own.map (·.2)) = t'.sl := congrArg S.sl e3
  show (⟨wipeN t'.sl _, _, _⟩ : S) = ⟨t'.sl, _, _⟩
  rw [e6]
  rfl
/-- [..], owned -/
theorem je_lcI (bx : Bx X B) (ok : BlkOk X.N X.env.scope scope own) (hj : j ∈ own.map (·.2)) (hn : ∀ Y, IsBlk X scope Y → NmW Y j x)
    (h : LcI X F (.Name x p) iter elt scope (own.map (·.2)) j s fun ds t => Φ (.r t.ce.length) (t.push .lst (ds.map .d)))
    (hs : ∀ x, foldedSetIterable iter X.env x = pure x := by intro _; rfl) : JE X F (.ListComp elt [⟨.Name x p, iter, [], 0⟩] scope pos) s Φ := by
  refine je_lc bx ok hj hn (fun as G H σ R c k => h as G H σ R c fun J as1 G1 H1 s1 n it c1 x1 okJ ⟨q1, In, q2, q3, q4⟩ => ?_) hs
  have z := lc_imp (Θ := fun _ _ => True) hj q1 wipe_wipe q2 q3
  refine k J as1 G1 H1 s1 n it c1 x1 okJ ⟨_, z.1, z.2, ?_⟩
  rintro acc s' ⟨ds, t, hdl, rfl, rfl, hw, hl, hI⟩
  obtain ⟨e1, e2⟩ := q4 ds t hdl hI
  rw [← e1]
  exact e2
/-- .. frozen -/
theorem je_lcF (bx : Bx X B) (ok : BlkOk X.N X.env.scope scope own) (hj : j ∈ own.map (·.2)) (hn : ∀ Y, IsBlk X scope Y → NmW Y j x)
    (h : LcI X F (.Name x p) iter elt scope (own.map (·.2)) j s fun ds t => s.ce.length ≤ t.ce.length ∧ TidyB t = true ∧ Φ (.d (.nd .lst ds)) t)
    (hs : ∀ x, foldedSetIterable iter X.env x = pure x := by intro _; rfl) : JE X F (.ListComp elt [⟨.Name x p, iter, [], 0⟩] scope pos) s Φ :=
  je_popT (je_lcI bx ok hj hn (fun as G H σ R c k => h as G H σ R c fun J as1 G1 H1 s1 n it c1 x1 okJ ⟨q1, In, q2, q3, q4⟩ => k J as1 G1 H1 s1 n it c1 x1 okJ ⟨q1, In, q2, q3, fun ds t hd hI => by
    obtain ⟨e1, e2, e3, e4⟩ := q4 ds t hd hI
    exact ⟨e1, _, _, ds, rfl, rfl, e2, e3, e4⟩⟩) hs)
/-- name = [..] on one line, owned -/
theorem js_setLcI {i : Nat} {y : Str} {py spos : Pos} {P : Po} (bx : Bx X B) (ny : NmW X i y) (ly : X.env.scope.names.lookup y = some .local) (hsw : swapsWith (.ListComp elt [⟨.Name x p, iter, [], 0⟩] scope pos) (some (.Name y py)) spos.line X.env = pure true)
    (ok : BlkOk X.N X.env.scope scope own) (hj : j ∈ own.map (·.2)) (hn : ∀ Y, IsBlk X scope Y → NmW Y j x)
    (h : LcI X F (.Name x p) iter elt scope (own.map (·.2)) j s fun ds t => P.nx ((t.push .lst (ds.map .d)).set i (.r t.ce.length)))
    (hs : ∀ x, foldedSetIterable iter X.env x = pure x := by intro _; rfl) : JS X F (.Assign [.Name y py] (.ListComp elt [⟨.Name x p, iter, [], 0⟩] scope pos) spos) s P := by
  refine js_setLc bx ny ly hsw ok hj hn (fun as G H σ R c k => h as G H σ R c fun J as1 G1 H1 s1 n it c1 x1 okJ ⟨q1, In, q2, q3, q4⟩ => ?_) hs
  have z := lc_imp (Θ := fun _ _ => True) hj q1 wipe_wipe q2 q3
  refine k J as1 G1 H1 s1 n it c1 x1 okJ ⟨_, z.1, z.2, ?_⟩
  rintro acc s' ⟨ds, t, hdl, rfl, rfl, hw, hl, hI⟩
  obtain ⟨e1, e2⟩ := q4 ds t hdl hI
  rw [← e1]
  exact e2
end
end DL
namespace DL
open PySem PySem.Spec PyProof.Rows L2
variable {X : Cx} {F : Fr} {s : S}
section
variable {elt iter kx vx c0 : Expr} {scope : Scope} {own : List (Str × Nat)} {pos p : Pos} {x : Str} {j B : Nat} {Φ : E → S → Prop}
/-! ### a dict comprehension with a test -/
def dcT (kf : Nat → Key) (f : Nat → D) (g : Nat → Bool) : Nat → List Key × List D
  | 0 => ([], [])
  | n + 1 => if g n = true then (dpK (dcT kf f g n).1 (kf n), dpV (dcT kf f g n).1 (dcT kf f g n).2 (kf n) (f n)) else dcT kf f g n
theorem dcT_ok (kf : Nat → Key) (f : Nat → D) (g : Nat → Bool) : ∀ n, (dcT kf f g n).1.length = (dcT kf f g n).2.length ∧ (dcT kf f g n).1.Nodup ∧ (dcT kf f g n).1.length ≤ n
  | 0 => ⟨rfl, List.nodup_nil, Nat.le_refl _⟩
  | n + 1 => by
    obtain ⟨h1, h2, h3⟩ := dcT_ok kf f g n
    unfold dcT
    split
    · refine ⟨dpV_len h1, dpK_nodup h2, ?_⟩
      show (dpK (dcT kf f g n).1 (kf n)).length ≤ n + 1
      unfold dpK
      split
      · omega
      · simp; omega
    · exact ⟨h1, h2, by omega⟩
theorem dcT_keys (kf : Nat → Key) (f : Nat → D) (g : Nat → Bool) : ∀ n, ∀ k ∈ (dcT kf f g n).1, ∃ i, i < n ∧ k = kf i
  | 0, k, h => by cases h
  | n + 1, k, h => by
    unfold dcT at h
    split at h
    · have h : k ∈ dpK (dcT kf f g n).1 (kf n) := h
      unfold dpK at h
      split at h
      · obtain ⟨i, h1, h2⟩ := dcT_keys kf f g n k h
        exact ⟨i, by omega, h2⟩
      · rcases List.mem_append.mp h with h | h
        · obtain ⟨i, h1, h2⟩ := dcT_keys kf f g n k h
          exact ⟨i, by omega, h2⟩
        · exact ⟨n, by omega, by simpa using h⟩
    · obtain ⟨i, h1, h2⟩ := dcT_keys kf f g n k h
      exact ⟨i, by omega, h2⟩
/-- the keys all different -/
theorem dcT_inj {kf : Nat → Key} {f : Nat → D} {g : Nat → Bool} : ∀ {n : Nat}, (∀ i j, i < j → j < n → kf i ≠ kf j) → dcT kf f g n = (((List.range n).filter g).map kf, ((List.range n).filter g).map f)
  | 0, _ => rfl
  | n + 1, h => by
    have ih := dcT_inj (f := f) (g := g) (n := n) fun i j h1 h2 => h i j h1 (by omega)
    have hm : ¬ memK (kf n) (dcT kf f g n).1 = true := fun z => by
      obtain ⟨i, h1, h2⟩ := dcT_keys kf f g n _ (memK_iff.mp z)
      exact h i n h1 (by omega) h2.symm
    rw [List.range_succ, List.filter_append]
    show (if g n = true then _ else _) = _
    by_cases hg : g n = true
    · rw [if_pos hg]
      unfold dpK dpV
      rw [if_neg hm, if_neg hm, ih]
      simp [List.filter_cons, hg]
    · rw [if_neg hg, ih]
      simp [List.filter_cons, hg]
def DcT (X : Cx) (F : Fr) (tg iter c0 kx vx : Expr) (scope : Scope) (vs : List Nat) (j : Nat) (s : S) (Φ : List Key → List D → Prop) : Prop :=
  JI X F tg iter s fun n it s1 => s1 = s ∧ n ≤ 16000000 ∧ ∃ (kf : Nat → Key) (f : Nat → D) (g : Nat → Bool), (∀ i v, i < n → it i v → (∀ Y F, IsBlk X scope Y → JT Y F c0 (s.dblk vs j v) fun b s3 => b = g i ∧ s3 = s.dblk vs j v) ∧ (g i = true → Pure1 X scope kx (s.dblk vs j v) (kD (kf i)) ∧ Pure1 X scope vx (s.dblk vs j v) (f i))) ∧ Φ (dcT kf f g n).1 (dcT kf f g n).2
theorem dcT_read {Φ : List Key → List D → Prop} (hj : j ∈ own.map (·.2)) (h : DcT X F (.Name x p) iter c0 kx vx scope (own.map (·.2)) j s Φ) :
    ∀ as G H σ (Q : VK), Cz X F as G H σ s → (∀ D as' G' H' vs ks ds, Cz X F as' G' H' σ s → Ext as as' G G' → H' D = some (.dK (ks.zip vs)) → G' D = none → D ∉ as' → F.H0 D = none → Reps X.K G' vs ds → ks.length = vs.length → ks.Nodup → Φ ks ds → Q (.ref D) H') →
      tDc (semI X (.Name x p) iter) (gName j) (ttB X scope [c0]) (teB X scope kx) (teB X scope vx) (own.map (·.2)) σ H Q := by
  refine fun as G H σ Q c k => h as G H σ _ c fun J as1 G1 H1 s1 n it c1 x1 okJ ⟨q1, q2, kf, f, g, q3, q4⟩ => ?_
  subst q1
  intro D hD
  have gD := c1.gnone hD
  have nD := c1.notin hD
  have hD0 := c1.h0none hD
  -- the state of a turn
  have keep : ∀ {as' : List Addr} {G' H' : Hp} {σ' : L2.St} {s' : S} {o : HO}, Cz X F as' G' H' σ' s' → G' D = none → D ∉ as' → F.H0 D = none → Cz X F as' G' (upd H' D o) σ' s' := fun {as' G' H' σ' s' o} c' g' n' h0 => by
    refine ⟨fun b u q => ?_, c'.base, c'.new, fun b u w1 w2 => ?_, c'.len, c'.pre, c'.nd, c'.own, c'.fresh, fun a ha => ?_, fun l kd es q => ?_, c'.slots, c'.slen, c'.har⟩
    · rw [upd_ne (ne_of_none q g')]; exact c'.sub b u q
    · rw [upd_ne (ne_of_none w1 h0)]; exact c'.frame b u w1 w2
    · rw [upd_ne (fun z => n' (by rw [← z]; exact ha))]; exact c'.there a ha
    · obtain ⟨a, ws, w1, w2, w3⟩ := c'.cells l kd es q
      exact ⟨a, ws, w1, w2.keep fun u z => by rw [upd_ne (fun z => n' (by rw [← z]; exact List.mem_of_getElem? w1))]; exact z, w3⟩
  have c1' := keep (o := .dK []) (c1.wipe (own.map (·.2))) gD nD hD0
  refine ⟨fun i m H' => m = n - i ∧ i ≤ n ∧ ∃ as' G' vs, Cz X F as' G' H' (wipe σ (own.map (·.2))) (s1.wipe (own.map (·.2))) ∧ Ext as1 as' G1 G' ∧ H' D = some (.dK ((dcT kf f g i).1.zip vs)) ∧ G' D = none ∧ D ∉ as' ∧ Reps X.K G' vs (dcT kf f g i).2, ⟨n, by simp, Nat.zero_le _, as1, G1, [], c1', Ext.refl _ _, upd_same, gD, nD, .nil⟩, ?_⟩
  rintro i m H' ⟨rfl, hi, as', G', vs, c', x', hd, g', n', rs⟩
  by_cases hlt : i < n
  · refine .inr ⟨okJ.go i as' G' H' _ _ hlt c' x'.sub, fun H2 => ∃ as' G' vs, Cz X F as' G' H2 (wipe σ (own.map (·.2))) (s1.wipe (own.map (·.2))) ∧ Ext as1 as' G1 G' ∧ H2 D = some (.dK ((dcT kf f g (i + 1)).1.zip vs)) ∧ G' D = none ∧ D ∉ as' ∧ Reps X.K G' vs (dcT kf f g (i + 1)).2, fun H2 ⟨as2, G2, vs2, w⟩ => ⟨n - (i + 1), by omega, rfl, hlt, as2, G2, vs2, w⟩, fun v H2 y => ?_⟩
    obtain ⟨G2, e, c2, ⟨x2, gk⟩, ve, hv⟩ := okJ.yld i as' G' H' _ _ v H2 hlt c' x'.sub y
    have hd2 : H2 D = _ := okJ.keep i as' G' H' _ _ v H2 hlt c' x'.sub y D _ hd
    have g2 : G2 D = none := gk D (by rw [hd]; exact fun z => nomatch z) g'
    obtain ⟨t0, t12⟩ := q3 i e hlt hv
    have c3 := c2.set (i := j) ve
    have ws : wipe ((wipe σ (own.map (·.2))).set j (some v)) (own.map (·.2)) = wipe σ (own.map (·.2)) := wipe_same (by rw [List.length_set, wipe_length]) fun l hl => by
      rw [List.getElem?_set_ne (fun z => hl (by rw [← z]; exact hj)), wipe_out' hl]
    have c4 := c3.enter
    refine ⟨ws, fun Y hY pins st I => jts_run (ifs := [c0]) (t0 Y _ hY) (cz_blk hY c4) (fun bb asT GT HT sT cT xT ⟨w1, w2⟩ => ?_) pins st I⟩
    subst w1 w2
    have cT := cz_ublk hY cT
    have gT : GT D = none := cT.new D g2 (by show H2 D ≠ none; rw [hd2]; exact fun z => nomatch z)
    have dT : HT D = _ := cT.frame D _ hd2 n'
    have nT : D ∉ asT := fun z => by
      rcases cT.fresh D z with z | z
      · exact n' z
      · rw [show H2 D = none from z] at hd2; cases hd2
    have cT := c3.leave cT
    have es0 : (S.wipe ⟨(s1.dblk (own.map (·.2)) j e).sl, (s1.dblk (own.map (·.2)) j e).ce, s1.ar⟩ (own.map (·.2))) = s1.wipe (own.map (·.2)) := by
      show (((s1.wipe (own.map (·.2))).set j e).wipe (own.map (·.2))) = _
      rw [set_wipe hj, wipe_wipe]
    by_cases hg : g i = true
    rotate_left
    · have hg : g i = false := by simpa using hg
      rw [hg]
      simp only [Bool.false_eq_true, if_false]
      have c6 := cT.wipe (own.map (·.2))
      rw [ws] at c6
      have c6 : Cz X F asT GT HT (wipe σ (own.map (·.2))) (s1.wipe (own.map (·.2))) := es0 ▸ c6
      have e0 : dcT kf f g (i + 1) = dcT kf f g i := by show (if g i = true then _ else _) = _; rw [if_neg (by rw [hg]; exact Bool.false_ne_true)]
      refine ⟨asT, GT, vs, c6, (x'.trans ⟨List.prefix_refl _, x2⟩).trans xT, ?_, gT, nT, ?_⟩
      · rw [e0]; exact dT
      · rw [e0]; exact rs.mono (x2.trans xT.sub)
    obtain ⟨t1, t2⟩ := t12 hg
    rw [hg]
    simp only [if_true]
    have eT : dcT kf f g (i + 1) = (dpK (dcT kf f g i).1 (kf i), dpV (dcT kf f g i).1 (dcT kf f g i).2 (kf i) (f i)) := by show (if g i = true then _ else _) = _; rw [if_pos hg]
    rw [eT]
    refine fun Y2 hY2 => t1 Y2 _ hY2 asT GT HT _ _ (cz_blk hY2 cT.enter) fun y as5 G5 H5 y' s5 c5 x5 ve5 ⟨w1, w2⟩ => ?_
    subst w1 w2
    have ve5 := rep_kV ve5
    subst ve5
    have c5 := cz_ublk hY2 c5
    have g5 : G5 D = none := c5.new D gT (by show HT D ≠ none; rw [dT]; exact fun z => nomatch z)
    have d5 : H5 D = _ := c5.frame D _ dT nT
    have n5 : D ∉ as5 := fun z => by
      rcases c5.fresh D z with z | z
      · exact nT z
      · rw [show HT D = none from z] at dT; cases dT
    have c5 := cT.leave c5
    refine fun Y3 hY3 => t2 Y3 _ hY3 as5 G5 H5 _ _ (cz_blk hY3 c5.enter) fun y as6 G6 H6 y' s6 c6 x6 ve6 ⟨w1, w2⟩ => ?_
    subst w1 w2
    have ve6 : Rep Y3.K G6 y (f i) := ve6
    rw [hY3.K] at ve6
    have c6 := cz_ublk hY3 c6
    have g6 : G6 D = none := c6.new D g5 (by show H5 D ≠ none; rw [d5]; exact fun z => nomatch z)
    have d6 : H6 D = _ := c6.frame D _ d5 n5
    have n6 : D ∉ as6 := fun z => by
      rcases c6.fresh D z with z | z
      · exact n5 z
      · rw [show H5 D = none from z] at d5; cases d5
    have c6 := (c5.leave c6).wipe (own.map (·.2))
    rw [ws] at c6
    have es : (S.wipe ⟨(s1.dblk (own.map (·.2)) j e).sl, (s1.dblk (own.map (·.2)) j e).ce, s1.ar⟩ (own.map (·.2))) = s1.wipe (own.map (·.2)) := by
      show (((s1.wipe (own.map (·.2))).set j e).wipe (own.map (·.2))) = _
      rw [set_wipe hj, wipe_wipe]
    have c6 : Cz X F as6 G6 H6 (wipe σ (own.map (·.2))) (s1.wipe (own.map (·.2))) := es ▸ c6
    obtain ⟨l1, l2, l3⟩ := dcT_ok kf f g i
    have ll : (dcT kf f g i).1.length = vs.length := by rw [l1, rs.length]
    refine ⟨_, kf i, rfl, d6, ?_, as6, G6, dpV (dcT kf f g i).1 vs (kf i) y, keep c6 g6 n6 hD0, ?_, ?_, g6, n6, ?_⟩
    · rw [List.length_zip, ← ll, Nat.min_self, sizeLine_eq]; omega
    · exact (x'.trans ⟨List.prefix_refl _, x2⟩).trans (xT.trans (x5.trans x6))
    · rw [upd_same, putK_zip ll]
    · exact reps_dpV ve6 (rs.mono (((x2.trans xT.sub).trans x5.sub).trans x6.sub))
  · have e : i = n := by omega
    subst e
    obtain ⟨l1, l2, l3⟩ := dcT_ok kf f g i
    exact .inl ⟨okJ.stop as' G' H' _ _ c' x'.sub, k D as' G' H' vs _ _ (show Cz X F as' G' H' σ ⟨s1.sl, (s1.wipe (own.map (·.2))).ce, s1.ar⟩ from c1.back c' x') (x1.trans x') hd g' n' hD0 rs (by rw [l1, rs.length]) l2 q4⟩
/-- {k: v for x in iter if c}, pure: the dict, frozen -/
theorem je_dcT (bx : Bx X B) (ok : BlkOk X.N X.env.scope scope own) (hj : j ∈ own.map (·.2)) (hn : ∀ Y, IsBlk X scope Y → NmW Y j x)
    (h : DcT X F (.Name x p) iter c0 kx vx scope (own.map (·.2)) j s fun ks ds => Φ (.d (.nd (.dct ks) ds)) s)
    (hs : ∀ x, foldedSetIterable iter X.env x = pure x := by intro _; rfl) : JE X F (.DictComp kx vx [⟨.Name x p, iter, [c0], 0⟩] scope pos) s Φ := fun as G H σ Q c k =>
  sem_lock (PE.sem (pe_dc bx.calm bx.nd (pi_sem X _ iter) ok (pg_B hn) pts_B pe_B pe_B hs) (dcT_read hj h as G H σ _ c fun D as' G' H' vs ks ds c' x' hd gD nD h0 rs l nd q =>
    ⟨D, _, hd, trivial, fun od => by
      obtain ⟨c2, sg, rep⟩ := frz_dct (od := od) c' gD nD h0 rs l nd
      exact k _ as' _ _ _ s c2 (x'.trans ⟨List.prefix_refl _, sg⟩) rep q⟩))
end
end DL
namespace DL
open PySem PySem.Spec PyProof.Rows L2
variable {X : Cx} {F : Fr} {s : S}
/-! ### sizes -/
def Bd (k : Nat) (x : Int) : Prop := x.natAbs < 2 ^ k
theorem Bd.mul {a b : Nat} {x y : Int} (h1 : Bd a x) (h2 : Bd b y) : Bd (a + b) (x * y) := wide_lt h1 h2
theorem Bd.mono {a b : Nat} {x : Int} (h : Bd a x) (l : a ≤ b) : Bd b x := Nat.lt_of_lt_of_le h (Nat.pow_le_pow_right (by decide) l)
theorem Bd.le {a : Nat} {x y : Int} (h : Bd a x) (l : y.natAbs ≤ x.natAbs) : Bd a y := Nat.lt_of_le_of_lt l h
theorem Bd.sub {a : Nat} {x y : Int} (h1 : Bd a x) (h2 : Bd a y) : Bd (a + 1) (x - y) := by
  unfold Bd at *
  rw [Nat.pow_succ]
  omega
theorem Bd.add {a : Nat} {x y : Int} (h1 : Bd a x) (h2 : Bd a y) : Bd (a + 1) (x + y) := by
  unfold Bd at *
  rw [Nat.pow_succ]
  omega
theorem Bd.neg {a : Nat} {x : Int} (h : Bd a x) : Bd a (-x) := by unfold Bd at *; rw [Int.natAbs_neg]; exact h
theorem Bd.lg {a : Nat} {x : Int} (h : Bd a x) (h0 : 0 < a) : x.natAbs.log2 < a := PySem.Flt.log2_lt_of h0 h
theorem Bd.cmul {a b : Nat} {x y : Int} (h1 : Bd a x) (h2 : Bd b y) (h0 : 0 < a) (h3 : 0 < b) (h : a + b ≤ 1000000) : CMul x y ∨ CMulW x y := .inr (wide_mul h1 h2 h0 h3 h)
theorem Bd.cdiv {a : Nat} {x y : Int} (h1 : Bd a y) (h : 0 < y) (h0 : 0 < a) (h9 : a ≤ 9000) : CDiv x y ∨ CDivW x y := .inr ⟨h, Nat.lt_of_lt_of_le (h1.lg h0) h9⟩
/-! ### fractions as the core's rationals -/
def frQ (x : Rat) : D := .nd .tup [.int x.num, .int x.den]
theorem frQ_inj {x y : Rat} (h : frQ x = frQ y) : x = y := by
  unfold frQ at h
  injection h with _ h
  injection h with h1 h2
  injection h2 with h2 _
  injection h1 with h1
  injection h2 with h2
  exact Rat.ext h1 (by omega)
structure QB (k : Nat) (x : Rat) : Prop where
  n : Bd k x.num
  d : x.den < 2 ^ k
theorem QB.db {k : Nat} {x : Rat} (h : QB k x) : Bd k (x.den : Int) := by unfold Bd; rw [Int.natAbs_natCast]; exact h.d
theorem QB.mono {k l : Nat} {x : Rat} (h : QB k x) (hl : k ≤ l) : QB l x := ⟨h.n.mono hl, Nat.lt_of_lt_of_le h.d (Nat.pow_le_pow_right (by decide) hl)⟩
theorem den_pos' (x : Rat) : (0 : Int) < x.den := by have := x.den_pos; omega
theorem sign_pos {q : Int} (h : 0 < q) : q.sign = 1 := Int.sign_eq_one_of_pos h
/-- (p // g, q // g) -/
theorem frQ_div {p q : Int} (hq : 0 < q) : D.nd .tup [.int (p / (Int.gcd p q : Nat)), .int (q / (Int.gcd p q : Nat))] = frQ (Rat.divInt p q) := by
  unfold frQ
  rw [Rat.num_divInt, Rat.den_divInt, sign_pos hq, Int.one_mul, Int.gcd_comm q p, if_neg (by omega)]
  have : ((q.natAbs / Int.gcd p q : Nat) : Int) = q / (Int.gcd p q : Nat) := by
    rw [Int.natCast_ediv]
    congr 1
    omega
  rw [this]
theorem divInt_neg2 (p q : Int) : Rat.divInt (-p) (-q) = Rat.divInt p q := by
  rw [Rat.divInt_eq_div, Rat.divInt_eq_div, Rat.intCast_neg, Rat.intCast_neg]
  rw [Rat.div_def, Rat.div_def]
  grind
theorem QB.div {k : Nat} {p q : Int} (h1 : Bd k p) (h2 : Bd k q) (hq : 0 < q) : QB k (Rat.divInt p q) := by
  refine ⟨?_, ?_⟩
  · rw [Rat.num_divInt, sign_pos hq, Int.one_mul]
    exact h1.le (Int.natAbs_ediv_le_natAbs _ _)
  · rw [Rat.den_divInt, if_neg (by omega)]
    exact Nat.lt_of_le_of_lt (Nat.div_le_self _ _) h2
theorem q_add (x y : Rat) : Rat.divInt (x.num * y.den + y.num * x.den) (x.den * y.den) = x + y := by
  rw [Rat.add_def', ← Rat.divInt_ofNat, Int.natCast_mul]
theorem q_sub (x y : Rat) : Rat.divInt (x.num * y.den - y.num * x.den) (x.den * y.den) = x - y := by
  rw [Rat.sub_def', ← Rat.divInt_ofNat, Int.natCast_mul]
theorem q_mul (x y : Rat) : Rat.divInt (x.num * y.num) (x.den * y.den) = x * y := by
  rw [Rat.mul_def', ← Rat.divInt_ofNat, Int.natCast_mul]
theorem q_self (x : Rat) : Rat.divInt x.num x.den = x := by rw [Rat.divInt_ofNat, Rat.mkRat_self]
theorem q_over (x y : Rat) : Rat.divInt (x.num * y.den) (x.den * y.num) = x / y := by
  rw [Rat.div_def, Rat.inv_def, ← Rat.divInt_mul_divInt, q_self]
theorem QB.add {k l : Nat} {x y : Rat} (h1 : QB k x) (h2 : QB l y) : QB (k + l + 1) (x + y) := by
  rw [← q_add]
  refine QB.div (((h1.n.mul h2.db)).add ((h2.n.mul h1.db).mono (by omega))) ((h1.db.mul h2.db).mono (by omega)) (Int.mul_pos (den_pos' x) (den_pos' y))
theorem QB.sub {k l : Nat} {x y : Rat} (h1 : QB k x) (h2 : QB l y) : QB (k + l + 1) (x - y) := by
  rw [← q_sub]
  refine QB.div (((h1.n.mul h2.db)).sub ((h2.n.mul h1.db).mono (by omega))) ((h1.db.mul h2.db).mono (by omega)) (Int.mul_pos (den_pos' x) (den_pos' y))
theorem QB.mul {k l : Nat} {x y : Rat} (h1 : QB k x) (h2 : QB l y) : QB (k + l) (x * y) := by
  rw [← q_mul]
  exact QB.div (h1.n.mul h2.n) (h1.db.mul h2.db) (Int.mul_pos (den_pos' x) (den_pos' y))
theorem QB.neg {k : Nat} {x : Rat} (h : QB k x) : QB k (-x) := ⟨by rw [Rat.neg_num]; exact h.n.neg, by rw [Rat.neg_den]; exact h.d⟩
theorem q_pos (x y : Rat) : (0 : Int) < x.den * y.den := Int.mul_pos (den_pos' x) (den_pos' y)
/-! == of fractions -/
theorem dp_frQ {K : PySem.W.Frag} {G H : Hp} {as : List Addr} {v : V} {x : Rat} (sg : Same G H) (ve : VE K G as v (.d (frQ x))) : L2.Dp K H v (.tuple [.int x.num, .int x.den]) := by
  have ve : Rep K G v (.nd .tup [.int x.num, .int x.den]) := ve
  cases ve with
  | nd n r =>
    cases r with
    | cons a r =>
      cases r with
      | cons b r =>
        cases r
        cases a
        cases b
        exact .tup (n.mono sg) (.cons (.int _) (.cons (.int _) .nil))
theorem shaped_frQ (i j : Int) : SeqAt.shaped (.tuple [.int i, .int j]) = true := by rfl
theorem eqv_frQ (x y : Rat) : PyData.eqv (.tuple [.int x.num, .int x.den]) (.tuple [.int y.num, .int y.den]) = decide (x = y) := by
  show ((x.num == y.num) && (((x.den : Int) == (y.den : Int)) && true)) = _
  by_cases h : x = y
  · subst h; simp
  · rw [decide_eq_false h]
    by_cases h1 : x.num = y.num
    · have h2 : ¬ (x.den : Int) = y.den := fun z => h (Rat.ext h1 (by omega))
      simp [h2]
    · simp [h1]
theorem jr_eqQ {B : Nat} {x y : Rat} {Φ : E → S → Prop} (bx : Bx X B) (q : Φ (.d (.bl (decide (x = y)))) s) : JR X F (compareOp .Eq) (.d (frQ x)) (.d (frQ y)) s Φ :=
  jr_of (op_eqD bx.room.units) fun as G H σ v w Q c v1 v2 k =>
    ⟨_, _, dp_frQ c.sub v1, dp_frQ c.sub v2, shaped_frQ _ _, shaped_frQ _ _, by rw [eqv_frQ]; exact k _ as G H _ s c (Ext.refl _ _) (Rep.bl _) q⟩
theorem jr_neQ {B : Nat} {x y : Rat} {Φ : E → S → Prop} (bx : Bx X B) (q : Φ (.d (.bl (!decide (x = y)))) s) : JR X F (compareOp .NotEq) (.d (frQ x)) (.d (frQ y)) s Φ :=
  jr_of (op_neD bx.room.units) fun as G H σ v w Q c v1 v2 k =>
    ⟨_, _, dp_frQ c.sub v1, dp_frQ c.sub v2, shaped_frQ _ _, shaped_frQ _ _, by rw [eqv_frQ]; exact k _ as G H _ s c (Ext.refl _ _) (Rep.bl _) q⟩
end DL
namespace DL
open PySem PySem.Spec PyProof.Rows L2
/-! ### finite maps by text, as lists of pairs -/
abbrev FM (α : Type) := List (Str × α)
variable {α : Type} {f : α → D}
abbrev FM.ks (m : FM α) : List Str := m.map (·.1)
def FM.get (m : FM α) (k : Str) : Option α := (m.find? fun p => decide (p.1 = k)).map (·.2)
def FM.put (m : FM α) (k : Str) (v : α) : FM α := if k ∈ m.ks then m.map (fun p => if p.1 = k then (p.1, v) else p) else m ++ [(k, v)]
def fmK (m : FM α) : List Key := m.ks.map Sum.inr
def fmV (f : α → D) (m : FM α) : List D := m.map fun p => f p.2
def fmD (f : α → D) (m : FM α) : D := .nd (.dct (fmK m)) (fmV f m)
theorem fmK_len (m : FM α) : (fmK m).length = m.length := by unfold fmK FM.ks; simp
theorem fmV_len (m : FM α) : (fmV f m).length = m.length := by unfold fmV; simp
theorem fmK_mem {m : FM α} {k : Str} : (Sum.inr k : Key) ∈ fmK m ↔ k ∈ m.ks := by
  unfold fmK
  constructor
  · intro h
    obtain ⟨a, h1, h2⟩ := List.mem_map.mp h
    cases h2; exact h1
  · intro h; exact List.mem_map_of_mem h
theorem fmK_nd {m : FM α} (h : m.ks.Nodup) : (fmK m).Nodup := nodup_inr h
theorem fm_lk (m : FM α) (k : Str) : lk ((fmK m).zip ((fmV f m).map E.d)) (.inr k) = (m.get k).map fun v => .d (f v) := by
  unfold FM.get lk fmK fmV FM.ks
  induction m with
  | nil => rfl
  | cons p m ih =>
    simp only [List.map_cons, List.zip_cons_cons]
    by_cases h : p.1 = k
    · rw [List.find?_cons_of_pos (by simp [h]), List.find?_cons_of_pos (by simp [h])]; rfl
    · rw [List.find?_cons_of_neg (by simp [h]), List.find?_cons_of_neg (by simp [h])]; exact ih
theorem fm_mem (m : FM α) (k : Str) : memK (.inr k) (fmK m) = decide (k ∈ m.ks) := by
  by_cases h : k ∈ m.ks
  · rw [memK_iff.mpr (fmK_mem.mpr h), decide_eq_true h]
  · rw [decide_eq_false h]
    cases q : memK (.inr k) (fmK m) with
    | false => rfl
    | true => exact absurd (fmK_mem.mp (memK_iff.mp q)) h
theorem FM.put_old {m : FM α} {k : Str} {v : α} (h : k ∈ m.ks) : m.put k v = m.map (fun p => if p.1 = k then (p.1, v) else p) := if_pos h
theorem FM.put_new {m : FM α} {k : Str} {v : α} (h : k ∉ m.ks) : m.put k v = m ++ [(k, v)] := if_neg h
theorem FM.ks_put {m : FM α} {k : Str} {v : α} : (m.put k v).ks = if k ∈ m.ks then m.ks else m.ks ++ [k] := by
  unfold FM.put
  split
  · unfold FM.ks
    rw [List.map_map]
    apply List.map_congr_left
    intro p _
    simp only [Function.comp]
    split <;> rfl
  · unfold FM.ks; simp
theorem fm_dpK {m : FM α} {k : Str} {v : α} : dpK (fmK m) (.inr k) = fmK (m.put k v) := by
  by_cases h : k ∈ m.ks
  · rw [dpK_old (fmK_mem.mpr h)]
    unfold fmK
    rw [FM.ks_put, if_pos h]
  · rw [dpK_new (fun z => h (fmK_mem.mp z))]
    unfold fmK
    rw [FM.ks_put, if_neg h, List.map_append]; rfl
theorem fm_dpV {m : FM α} {k : Str} {v : α} : dpV (fmK m) ((fmV f m).map E.d) (.inr k) (.d (f v)) = (fmV f (m.put k v)).map E.d := by
  by_cases h : k ∈ m.ks
  · unfold dpV
    rw [if_pos (memK_iff.mpr (fmK_mem.mpr h)), FM.put_old h]
    unfold fmK fmV FM.ks
    clear h
    induction m with
    | nil => rfl
    | cons p m ih =>
      simp only [List.map_cons, List.zip_cons_cons]
      rw [ih]
      congr 1
      by_cases h : p.1 = k
      · simp [h]
      · have h2 : ¬ (Sum.inr p.1 : Key) = Sum.inr k := fun z => h (by cases z; rfl)
        simp only [h, h2, if_false]
  · rw [dpV_new (fun z => h (fmK_mem.mp z)), FM.put_new h]
    unfold fmV; simp
theorem FM.put_nd {m : FM α} {k : Str} {v : α} (h : m.ks.Nodup) : (m.put k v).ks.Nodup := by
  rw [FM.ks_put]
  split
  · exact h
  · rename_i hk
    rw [List.nodup_append]
    exact ⟨h, by simp, fun a ha b hb e => by
      have : b = k := by simpa using hb
      subst this; subst e; exact hk ha⟩
theorem FM.put_len {m : FM α} {k : Str} {v : α} : (m.put k v).length ≤ m.length + 1 := by
  unfold FM.put
  split <;> simp
theorem FM.get_mem {m : FM α} {k : Str} {v : α} (h : m.get k = some v) : (k, v) ∈ m := by
  unfold FM.get at h
  cases q : m.find? fun p => decide (p.1 = k) with
  | none => rw [q] at h; cases h
  | some p =>
    rw [q] at h
    cases h
    have h1 := List.mem_of_find?_eq_some q
    have h2 : p.1 = k := by have := List.find?_some q; simpa using this
    rw [← h2]; exact h1
theorem FM.get_in {m : FM α} {k : Str} : (m.get k).isSome = true ↔ k ∈ m.ks := by
  unfold FM.get FM.ks
  induction m with
  | nil => simp
  | cons p m ih =>
    by_cases h : p.1 = k
    · rw [List.find?_cons_of_pos (by simp [h])]; simp [h]
    · rw [List.find?_cons_of_neg (by simp [h]), List.map_cons, List.mem_cons, ih]
      constructor
      · intro z; exact .inr z
      · intro z; exact z.resolve_left fun q => h q.symm
theorem FM.get_at {m : FM α} {i : Nat} {p : Str × α} (nd : m.ks.Nodup) (h : m[i]? = some p) : m.get p.1 = some p.2 := by
  unfold FM.get
  induction m generalizing i with
  | nil => simp at h
  | cons q m ih =>
    cases i with
    | zero => simp at h; subst h; rw [List.find?_cons_of_pos (by simp)]; rfl
    | succ i =>
      simp at h
      have hn : q.1 ≠ p.1 := fun z => (List.nodup_cons.mp nd).1 (by show q.1 ∈ _; rw [z]; exact List.mem_map_of_mem (List.mem_of_getElem? h))
      rw [List.find?_cons_of_neg (by simp [hn])]
      exact ih (List.nodup_cons.mp nd).2 h
/-- every value bears Pr -/
def FM.All (Pr : α → Prop) (m : FM α) : Prop := ∀ p ∈ m, Pr p.2
theorem FM.All.put {Pr : α → Prop} {m : FM α} (h : m.All Pr) {k : Str} {v : α} (hv : Pr v) : (m.put k v).All Pr := by
  intro p hp
  unfold FM.put at hp
  split at hp
  · obtain ⟨q, h1, rfl⟩ := List.mem_map.mp hp
    split
    · exact hv
    · exact h q h1
  · rcases List.mem_append.mp hp with hp | hp
    · exact h p hp
    · have : p = (k, v) := by simpa using hp
      subst this; exact hv
theorem FM.All.get {Pr : α → Prop} {m : FM α} (h : m.All Pr) {k : Str} {v : α} (hg : m.get k = some v) : Pr v := h _ (FM.get_mem hg)
theorem FM.All.mono {Pr Qr : α → Prop} {m : FM α} (h : m.All Pr) (i : ∀ x, Pr x → Qr x) : m.All Qr := fun p hp => i _ (h p hp)
theorem fm_key {m : FM α} {i : Nat} {d : D} (h : ((fmK m).map kD)[i]? = some d) : ∃ p, m[i]? = some p ∧ d = .str p.1 := by
  unfold fmK FM.ks at h
  rw [List.getElem?_map, List.getElem?_map, List.getElem?_map] at h
  cases e : m[i]? with
  | none => rw [e] at h; cases h
  | some p => rw [e] at h; cases h; exact ⟨p, rfl, rfl⟩
theorem strs_ks (m : FM α) : fmK m = (m.ks).map Sum.inr := rfl
end DL
namespace DL
open PySem PySem.Spec PyProof.Rows L2
variable {X : Cx} {F : Fr} {s : S}
section
variable {elt iter kx vx c0 : Expr} {scope : Scope} {own : List (Str × Nat)} {pos p : Pos} {x : Str} {j B : Nat} {Φ : E → S → Prop}
/-- {k: v for x in iter if c}, pure: the dict, owned -/
theorem je_dcTO (bx : Bx X B) (ok : BlkOk X.N X.env.scope scope own) (hj : j ∈ own.map (·.2)) (hn : ∀ Y, IsBlk X scope Y → NmW Y j x)
    (h : DcT X F (.Name x p) iter c0 kx vx scope (own.map (·.2)) j s fun ks ds => Φ (.r s.ce.length) (s.push (.dct ks) (ds.map .d)))
    (hs : ∀ x, foldedSetIterable iter X.env x = pure x := by intro _; rfl) : JE X F (.DictComp kx vx [⟨.Name x p, iter, [c0], 0⟩] scope pos) s Φ := fun as G H σ Q c k =>
  sem_lock (PE.sem (pe_dc bx.calm bx.nd (pi_sem X _ iter) ok (pg_B hn) pts_B pe_B pe_B hs) (dcT_read hj h as G H σ _ c fun D as' G' H' vs ks ds c' x' hd gD nD h0 rs l nd q =>
    ⟨D, _, hd, trivial, fun od => by
      have c2 := (lay_dct (ks := ks) (vs := vs) (od := od) c' gD nD h0).grow (kd := .dct ks) gD nD h0 ⟨l, nd, od, upd_same⟩ (VEs.ofReps rs)
      exact k _ _ _ _ (.r s.ce.length) _ c2 (x'.trans ⟨pre_snoc, Same.refl _⟩) ⟨D, by rw [← c'.len, List.getElem?_append_right (Nat.le_refl _)]; simp, rfl⟩ q⟩))
end
theorem filter_getD {α β : Type} (g : α → Bool) (h : α → β) (d : α) (ys : List α) : ((List.range ys.length).filter fun i => g (ys.getD i d)).map (fun i => h (ys.getD i d)) = (ys.filter g).map h := by
  have e : ys = (List.range ys.length).map fun i => ys.getD i d := by
    have := range_getD (fun y : α => y) d ys
    rw [List.map_id'] at this
    exact this.symm
  conv => rhs; rw [e, List.filter_map, List.map_map]
  rfl
theorem dcT_getD {α : Type} {kf : α → Key} {f : α → D} {g : α → Bool} {d : α} {ys : List α} (h : (ys.map kf).Nodup) : dcT (fun i => kf (ys.getD i d)) (fun i => f (ys.getD i d)) (fun i => g (ys.getD i d)) ys.length = ((ys.filter g).map kf, (ys.filter g).map f) := by
  rw [dcT_inj]
  · rw [filter_getD, filter_getD]
  intro i j hij hj e
  have hi : i < ys.length := by omega
  have h1 : (ys.map kf)[i]? = some (kf (ys.getD i d)) := by rw [List.getElem?_map, List.getElem?_eq_getElem hi]; simp [List.getD, List.getElem?_eq_getElem hi]
  have h2 : (ys.map kf)[j]? = some (kf (ys.getD j d)) := by rw [List.getElem?_map, List.getElem?_eq_getElem hj]; simp [List.getD, List.getElem?_eq_getElem hj]
  have e : kf (ys.getD i d) = kf (ys.getD j d) := e
  rw [e] at h1
  have := nodup_get h h1 h2
  omega
end DL
namespace DL
open PySem PySem.Spec PyProof.Rows L2
variable {X : Cx} {F : Fr} {s : S}
/-! ### reading owned things as if frozen, while one expression makes a new list -/
def S.viewSl (s : S) : List (Option E) := s.sl.map fun o => match o with
  | none => none
  | some e => (s.view e).map E.d
theorem je_borrow {e : Expr} {Φ : E → S → Prop} (h : ∀ F', JE X F' e ⟨s.viewSl, [], 0⟩ fun e1 s1 => ∃ ds, e1 = .r 0 ∧ s1 = ⟨s.viewSl, [.nd .lst (ds.map .d)], 0⟩ ∧ D.imms ds = true ∧ Φ (.r s.ce.length) (s.push .lst (ds.map .d))) : JE X F e s Φ := fun as G H σ Q c k => by
  have c0 : Cz X ⟨lend s as G H, H, []⟩ [] (lend s as G H) H σ ⟨s.viewSl, [], 0⟩ := by
    refine ⟨lend_in c.sub, Same.refl _, fun _ h _ => h, fun _ _ h _ => h, rfl, List.prefix_refl _, List.nodup_nil, fun k a kd es h => by simp at h, fun a h => by simp at h, fun a h => by simp at h, fun k kd es h => ?_, fun i e he => ?_, ?_, rfl⟩
    · have h : ([] : List Cell)[k]? = some (.nd kd es) := h
      simp at h
    · have he : (s.viewSl)[i]? = some (some e) := he
      unfold S.viewSl at he
      rw [List.getElem?_map] at he
      cases q : s.sl[i]? with
      | none => rw [q] at he; cases he
      | some o =>
        rw [q] at he
        cases o with
        | none => cases he
        | some e0 =>
          have he : (s.view e0).map E.d = some e := Option.some.inj he
          cases q2 : s.view e0 with
          | none => rw [q2] at he; cases he
          | some d =>
            rw [q2] at he
            cases he
            obtain ⟨v, w1, w2⟩ := c.slots i e0 q
            exact ⟨v, w1, c.view w2 q2⟩
    · show s.viewSl.length = _
      unfold S.viewSl
      rw [List.length_map]; exact c.slen
  refine h _ [] _ H σ _ c0 fun v as' G' H' e1 s1 c' x ve ⟨ds, q1, q2, hi, q⟩ => ?_
  subst q1 q2
  obtain ⟨a, ha, rfl⟩ := ve
  obtain ⟨a', vs, g1, g2, g3⟩ := c'.cells 0 .lst (ds.map .d) rfl
  rw [ha] at g1
  cases g1
  have hG' : G' a = none := c'.own 0 a .lst _ ha rfl
  have hH : H a = none := (c'.fresh a (List.mem_of_getElem? ha)).resolve_left (by simp)
  have h1 : Same H H' := fun b o z => c'.frame b o z (by simp)
  have h2 : Same (lend s as G H) G' := c'.base
  -- what is frozen behind
  obtain ⟨G2, hG2, hG3⟩ : ∃ G2 : Hp, (∀ b, Alive s as b → G2 b = none) ∧ ∀ b, ¬ Alive s as b → G2 b = G' b := by
    classical
    exact ⟨fun b => if Alive s as b then none else G' b, fun b h => if_pos h, fun b h => if_neg h⟩
  have ga : ∀ {b : Addr}, Alive s as b → G b = none := fun {b} ⟨k, kd, es, w1, w2⟩ => c.own k b _ _ w1 w2
  have s1' : Same G G2 := fun b o q => by
    rw [hG3 b (fun z => by rw [ga z] at q; cases q)]
    exact h2 b o (lend_sub b o q)
  have s2' : Same G2 H' := fun b o q => by
    by_cases hb : Alive s as b
    · rw [hG2 b hb] at q; cases q
    · rw [hG3 b hb] at q; exact c'.sub b o q
  have s4' : ∀ b, G b = none → H b ≠ none → G2 b = none := fun b w1 w2 => by
    by_cases hb : Alive s as b
    · exact hG2 b hb
    · rw [hG3 b hb]
      exact c'.new b (lend_no w1 hb) w2
  have c2 := c.call h1 s1' s2' s4'
  have tups : ∀ a vs, Rd G' a (.tup vs) → Rd G2 a (.tup vs) := fun b ws hb => by
    have nb : ¬ Alive s as b := fun z => by
      have w0 := ga z
      obtain ⟨j, kd, es, hj, hcl⟩ := z
      obtain ⟨b', us, g1, g2, g3⟩ := c.cells j _ _ hcl
      rw [hj] at g1
      cases g1
      obtain ⟨o, ho⟩ := g2.some
      have hG' : G' b = some o := h2 b o (by rw [lend_yes w0 ⟨j, kd, es, hj, hcl⟩]; exact ho)
      have g2' : CellAt G' b us kd := g2.keep fun u q => by rw [ho] at q; cases q; exact hG'
      rcases hb with hb | ⟨oo, hb⟩
      · cases kd with
        | tup => exact g2'
        | lst => have : G' b = some (.lst us) := g2'; rw [hb] at this; cases this
        | dct ks => obtain ⟨_, _, _, this⟩ := g2'; rw [hb] at this; cases this
        | ins C fs => obtain ⟨_, _, this⟩ := g2'; rw [hb] at this; cases this
      · cases kd with
        | tup => exact g2'
        | lst => have : G' b = some (.lst us) := g2'; rw [hb] at this; cases this
        | dct ks => obtain ⟨_, _, _, this⟩ := g2'; rw [hb] at this; cases this
        | ins C fs => obtain ⟨_, _, this⟩ := g2'; rw [hb] at this; cases this
    rcases hb with hb | ⟨oo, hb⟩
    · exact .inl (by rw [hG3 b nb]; exact hb)
    · exact .inr ⟨oo, by rw [hG3 b nb]; exact hb⟩
  have gb : G2 a = none := by
    by_cases hb : Alive s as a
    · exact hG2 a hb
    · rw [hG3 a hb]; exact hG'
  have c3 := c2.grow (kd := .lst) (es := ds.map .d) gb (c.notin hH) (c.h0none hH) g2 (VEs.ofReps (imm_keeps tups _ _ g3.reps hi))
  exact k _ _ G2 H' (.r s.ce.length) _ c3 ⟨pre_snoc, s1'⟩ ⟨a, by rw [← c.len, List.getElem?_append_right (Nat.le_refl _)]; simp, rfl⟩ q
end DL
namespace DL
open PySem PySem.Spec PyProof.Rows L2
/-- a pair of whole numbers laid in the module -/
theorem XIs.gcQ {P : Program} {w : World} {K : PySem.W.Frag} {mg : Str → Option Value} {base : Heap} {N : List Str} {sc : Scope} {k : Nat} {x : Str} {a : Addr} {od : Option Addr} {sl : Array (Option Value)} {i j : Int} {t1 t2 : Tok} {n : Nat} (hm : mg x = some (.ref a)) (hl : K.lookup a = some ⟨.type "tuple", od, .seq #[.int i t1, .int j t2] n, sl⟩)
    (hd : (x == ("__debug__" : Str)) = false) {X : Cx} (hX : XIs X P w K mg base N sc k) (h : sc.names.lookup x = some .globalImplicit) : Gc X x (.nd .tup [.int i, .int j]) :=
  ⟨hX.gl h, ⟨.ref a, .ref a, by rw [hX.eM]; exact hm, rfl, .nd (k := .tup) (vs := [.int i, .int j]) (by
    rw [hX.eK]
    exact .inr ⟨_, _, n, hl, rfl, rfl, by rw [sizeLine_eq]; show 2 ≤ 16777216; decide, .cons ⟨t1, rfl⟩ (.cons ⟨t2, rfl⟩ .nil)⟩) (.cons (.int i) (.cons (.int j) .nil))⟩, hd⟩
end DL
namespace DL
open PySem PySem.Spec PyProof.Rows L2
section
variable {X : Cx} {F : Fr} {s : S} {tg iter : Expr} {body sts : List Stmt} {pos : Pos} {P : Po}
/-- a loop whose invariant is told after what it walks -/
theorem js_forE {B : Nat} (bx : Bx X B) (h : JI X F tg iter s fun n it s1 => ∃ In : Nat → S → Prop, In 0 s1 ∧ (∀ i v s', i < n → it i v → In i s' → Turn1 X F tg body P (In (i + 1)) v s') ∧ ∀ s', In n s' → P.nx s')
    (hs : ∀ x, foldedSetIterable iter X.env x = pure x := by intro _; rfl) : JS X F (.For tg iter body [] pos) s P := fun as G H σ D c k =>
  PS.sem (ps_for bx.po bx.calm (pi_sem X tg iter) (pg_sem X tg) (pss_sem X body) hs) (h as G H σ _ c fun J as1 G1 H1 s1 n it c1 x1 ok ⟨In, h0, ht, hd⟩ => by
    refine for_any (fun i σ' H' => ∃ as' G' s', Cz X F as' G' H' σ' s' ∧ Same G1 G' ∧ In i s') ⟨as1, G1, s1, c1, Same.refl _, h0⟩ (fun σ' H' ⟨as', G', s', c', x', _⟩ => ok.stop as' G' H' σ' s' c' x') (fun i σ' H' hi ⟨as', G', s', c', x', _⟩ => ok.go i as' G' H' σ' s' hi c' x')
      (fun i σ' H' hi ⟨as', G', s', c', x', q⟩ v H2 y => ?_) fun σ' H' ⟨as', G', s', c', x', q⟩ => k.nx as' G' H' σ' s' c' (x1.sub.trans x') (hd s' q)
    obtain ⟨G2, e, c2, ⟨x2, _⟩, ve, hv⟩ := ok.yld i as' G' H' σ' s' v H2 hi c' x' y
    have x3 : Same G1 G2 := x'.trans x2
    refine ht i e s' hi hv q as' G2 H2 σ' v _ c2 ve fun as3 G3 H3 σ3 s3 c3 x4 q3 => ?_
    refine q3 as3 G3 H3 σ3 _ c3 ⟨fun as5 G5 H5 σ5 s5 c5 x5 t => ⟨as5, G5, s5, c5, (x3.trans x4.sub).trans x5, t⟩, fun v as5 G5 H5 σ5 e5 s5 c5 x5 ve t => k.rt v as5 G5 H5 σ5 e5 s5 c5 (x1.sub.trans ((x3.trans x4.sub).trans x5)) ve t, fun as5 G5 H5 σ5 s5 c5 x5 t => k.nx as5 G5 H5 σ5 s5 c5 (x1.sub.trans ((x3.trans x4.sub).trans x5)) t,
      fun as5 G5 H5 σ5 s5 c5 x5 t => ⟨as5, G5, s5, c5, (x3.trans x4.sub).trans x5, t⟩⟩)
theorem jss_forE {B : Nat} (bx : Bx X B) (h : JI X F tg iter s fun n it s1 => ∃ In : Nat → S → Prop, In 0 s1 ∧ (∀ i v s', i < n → it i v → In i s' → JG X F tg v s' fun s2 => JSs X F body s2 { nx := In (i + 1), ct := In (i + 1), bk := fun s3 => JSs X F sts s3 P, rt := P.rt }) ∧ ∀ s', In n s' → JSs X F sts s' P)
    (hs : ∀ x, foldedSetIterable iter X.env x = pure x := by intro _; rfl) : JSs X F (.For tg iter body [] pos :: sts) s P := jss_cons (js_forE bx h hs)
end
end DL
namespace DL
open PySem PySem.Spec PyProof.Rows L2
/-! ### zip(a, b, strict=True) over two lists of one length -/
theorem F_tcz (a b : Value) : checkTypeCall "zip" ⟨[a, b], [(Str.ofString "strict", .bool true)]⟩ = pure () := by kernel_rfl
theorem F_ncz (a b : Value) : checkBuiltinCall "zip.__new__" ⟨[.type "zip", a, b], [(Str.ofString "strict", .bool true)]⟩ = pure () := by kernel_rfl
theorem F_aoz (obj a b : Value) : argsOk "object.__init__" ⟨[obj, a, b], [(Str.ofString "strict", .bool true)]⟩ := by unfold argsOk; kernel_rfl
/-- a strict zip -/
abbrev ZipS (h : Heap) (z TI TO : Addr) (f0 : Value) : Prop :=
  h.get? z = some { cls := .type "zip", dict := none, data := .fields #[f0, .bool false, .bool true, .ref TI, .ref TO], slots := #[] }
section
variable {prog : Program} {w : World} {A : Around} {E : Value → Shared → Prop} {s : Shared}
theorem nOE_item {it l : Addr} {i : Nat} {items : Array Value} {x : Value} {Q : Option Value → Shared → Prop} (hit : s.heap.IsListIter it l i) (hl : s.heap.IsList l items) (hx : items[i]? = some x)
    (hQ : ∀ h', h'.IsListIter it l (i + 1) → Heap.SameBut it s.heap h' → Q (some x) { s with heap := h' }) : wpAny (model prog w) A (Builtin.SmallTypes.nextOrEnd (.ref it)) Q E s := by
  unfold Builtin.SmallTypes.nextOrEnd
  exact wpAny_bind (wpAny_attempt (wpAny_nextOf_list_item hit hl hx fun h' a b => wpAny_pure (hQ h' a b)))
theorem nOE_end {it l : Addr} {i : Nat} {items : Array Value} {Q : Option Value → Shared → Prop} (hh : A.handled = none) (hit : s.heap.IsListIter it l i) (hl : s.heap.IsList l items) (hx : items[i]? = none)
    (hQ : ∀ h', Heap.ExtBut it s.heap h' → Q none { s with heap := h' }) : wpAny (model prog w) A (Builtin.SmallTypes.nextOrEnd (.ref it)) Q E s := by
  unfold Builtin.SmallTypes.nextOrEnd
  refine wpAny_bind (wpAny_attempt (wpAny_nextOf_list_end hh hit hl hx fun h' e k he => ?_))
  obtain ⟨o, ho, hc⟩ := he
  exact wpAny_bind (wpAny_isInstance (T := "StopIteration") (b := true) ⟨o, ho, hc⟩ isSubtype_stop (wpAny_pure (hQ h' k)))
theorem zs_item {z TI TO i1 i2 l1 l2 : Addr} {k1 k2 : Nat} {xs ys : Array Value} {x y a b : Value} {Q : Value → Shared → Prop} (D : ZipApart z TI TO i1 i2 l1 l2)
    (hz : ZipS s.heap z TI TO .none) (hTI : IsPair s.heap TI (.ref i1) (.ref i2)) (hTO : IsPair s.heap TO a b)
    (h1 : s.heap.IsListIter i1 l1 k1) (h2 : s.heap.IsListIter i2 l2 k2) (hl1 : s.heap.IsList l1 xs) (hl2 : s.heap.IsList l2 ys) (hx : xs[k1]? = some x) (hy : ys[k2]? = some y)
    (hQ : ∀ h', ZipS h' z TI TO (rawInt s.heap.objs.size) → IsPair h' TO x y → h'.IsListIter i1 l1 (k1 + 1) → h'.IsListIter i2 l2 (k2 + 1) → IsPair h' s.heap.objs.size x y → h'.objs.size = s.heap.objs.size + 1 →
      (∀ c o, c ≠ z → c ≠ TO → c ≠ i1 → c ≠ i2 → s.heap.get? c = some o → h'.get? c = some o) → Q (.ref s.heap.objs.size) { s with heap := h' }) :
    wpAny (model prog w) A (Builtin.«zip.__next__» ⟨[.ref z], []⟩) (fun fin s' => ∃ v, fin = .done (.ret v) ∧ Q v s') E s := by
  show wpAny _ _ (field (.ref z) 2 >>= _) _ _ _
  refine wpAny_bind (wpAny_field hz rfl (x := .bool true) rfl ?_)
  show wpAny _ _ (field (.ref z) 3 >>= _) _ _ _
  refine wpAny_bind (wpAny_field hz rfl (x := .ref TI) rfl (wpAny_bind (wpAny_seqItems hTI rfl ?_)))
  show wpAny _ _ (Builtin.SmallTypes.ownedTupleIsFree (.ref z) >>= _) _ _ _
  refine wpAny_bind ?_
  unfold Builtin.SmallTypes.ownedTupleIsFree
  refine wpAny_bind (wpAny_field hz rfl (x := .none) rfl (wpAny_pure ?_))
  simp only [if_true]
  refine wpAny_bind (wpAny_rule (wpAny_bind (wpAny_field hz rfl (x := .ref TO) rfl (wpAny_bind (wpAny_setField_rec hz (by simp) fun g1 z1 s1 => wpAny_bind ?_)))))
  replace z1 : ZipS g1 z TI TO .ellipsis := z1
  simp only [List.zipIdx_cons, List.zipIdx_nil, List.forIn_cons, List.forIn_nil]
  refine wpAny_bind (wpAny_bind (wpAny_onRaise ?_))
  show wpAny _ _ (Builtin.SmallTypes.nextOrEnd (.ref i1)) _ _ _
  refine nOE_item (h1.extBut s1.extBut D.i1z) (hl1.extBut s1.extBut D.l1z) hx fun g2 a2 s2 => ?_
  have t2 : IsPair g2 TO a b := s2.extBut _ _ D.TOi1 (s1.extBut _ _ D.TOz hTO)
  refine wpAny_bind (wpAny_seqItems t2 rfl (wpAny_bind (wpAny_updateSeq_pair t2 fun g3 t3 s3 => wpAny_bind (wpAny_letGo (wpAny_pure ?_)))))
  replace t3 : IsPair g3 TO x b := t3
  refine wpAny_bind (wpAny_bind (wpAny_onRaise ?_))
  show wpAny _ _ (Builtin.SmallTypes.nextOrEnd (.ref i2)) _ _ _
  refine nOE_item (((h2.extBut s1.extBut D.i2z).extBut s2.extBut D.i12.symm).extBut s3.extBut D.TOi2.symm) (((hl2.extBut s1.extBut D.l2z).extBut s2.extBut D.l2i1).extBut s3.extBut D.l2TO) hy fun g4 a4 s4 => ?_
  have t4 : IsPair g4 TO x b := s4.extBut _ _ D.TOi2 t3
  refine wpAny_bind (wpAny_seqItems t4 rfl (wpAny_bind (wpAny_updateSeq_pair t4 fun g5 t5 s5 => wpAny_bind (wpAny_letGo (wpAny_pure (wpAny_pure ?_))))))
  replace t5 : IsPair g5 TO x y := t5
  have ext : ∀ c o, c ≠ z → c ≠ TO → c ≠ i1 → c ≠ i2 → s.heap.get? c = some o → g5.get? c = some o := fun c o n1 n2 n3 n4 q =>
    s5.extBut _ _ n2 (s4.extBut _ _ n4 (s3.extBut _ _ n2 (s2.extBut _ _ n3 (s1.extBut _ _ n1 q))))
  have zz : g5.objs.size = s.heap.objs.size := by rw [s5.1, s4.1, s3.1, s2.1, s1.1]
  have z5 : ZipS g5 z TI TO .ellipsis := s5.extBut _ _ D.TOz.symm (s4.extBut _ _ D.i2z.symm (s3.extBut _ _ D.TOz.symm (s2.extBut _ _ D.i1z.symm z1)))
  have b1 : g5.IsListIter i1 l1 (k1 + 1) := ((a2.extBut s3.extBut D.TOi1.symm).extBut s4.extBut D.i12).extBut s5.extBut D.TOi1.symm
  have b2 : g5.IsListIter i2 l2 (k2 + 1) := a4.extBut s5.extBut D.TOi2.symm
  refine wpAny_bind (wpAny_seqItems t5 rfl (wpAny_bind (wpAny_newTuple ?_)))
  show wpAny _ _ (Builtin.SmallTypes.ownedTupleHandOut (.ref z) (.ref g5.objs.size) >>= _) _ _ _
  refine wpAny_bind ?_
  unfold Builtin.SmallTypes.ownedTupleHandOut
  have z6 : ZipS (g5.push { cls := .type "tuple", data := .seq #[x, y] }) z TI TO .ellipsis := Heap.get?_push_of_some _ z5
  refine wpAny_bind (wpAny_setField_rec z6 (by simp) fun g7 z7 s7 => ?_)
  replace z7 : ZipS g7 z TI TO (rawInt g5.objs.size) := z7
  refine wpAny_setField_rec z7 (by simp) fun g8 z8 s8 => ?_
  replace z8 : ZipS g8 z TI TO (rawInt g5.objs.size) := z8
  have up : ∀ c o, c ≠ z → g5.get? c = some o → g8.get? c = some o := fun c o n q => s8.extBut _ _ n (s7.extBut _ _ n (Heap.get?_push_of_some _ q))
  have zl : z < g5.objs.size := Heap.lt_size z5
  have t8 : IsPair g8 g5.objs.size x y := s8.extBut _ _ (Nat.ne_of_gt zl) (s7.extBut _ _ (Nat.ne_of_gt zl) (Heap.get?_push_size _ rfl))
  have w8 : g8.objs.size = g5.objs.size + 1 := by rw [s8.1, s7.1, Heap.size_push]
  refine wpAny_pure ⟨_, rfl, ?_⟩
  show Q (.ref g5.objs.size) _
  rw [zz] at z8 t8 w8 ⊢
  exact hQ g8 z8 (up _ _ D.TOz t5) (b1.at fun o q => up _ o D.i1z q) (b2.at fun o q => up _ o D.i2z q) t8 w8 fun c o n1 n2 n3 n4 q => up c o n1 (ext c o n1 n2 n3 n4 q)
theorem zs_end {z TI TO i1 i2 l1 l2 : Addr} {k1 k2 : Nat} {xs ys : Array Value} {a b : Value} {Q : Fin → Shared → Prop} (hh : A.handled = none) (D : ZipApart z TI TO i1 i2 l1 l2)
    (hz : ZipS s.heap z TI TO .none) (hTI : IsPair s.heap TI (.ref i1) (.ref i2)) (hTO : IsPair s.heap TO a b)
    (h1 : s.heap.IsListIter i1 l1 k1) (h2 : s.heap.IsListIter i2 l2 k2) (hl1 : s.heap.IsList l1 xs) (hl2 : s.heap.IsList l2 ys) (hx : xs[k1]? = none) (hy : ys[k2]? = none)
    (hE : ∀ h' e, (∀ c o, c ≠ z → c ≠ TO → c ≠ i1 → c ≠ i2 → s.heap.get? c = some o → h'.get? c = some o) → (∃ o, h'.get? e = some o ∧ o.cls = .type "StopIteration") → E (.ref e) { s with heap := h' }) :
    wpAny (model prog w) A (Builtin.«zip.__next__» ⟨[.ref z], []⟩) Q E s := by
  show wpAny _ _ (field (.ref z) 2 >>= _) _ _ _
  refine wpAny_bind (wpAny_field hz rfl (x := .bool true) rfl ?_)
  show wpAny _ _ (field (.ref z) 3 >>= _) _ _ _
  refine wpAny_bind (wpAny_field hz rfl (x := .ref TI) rfl (wpAny_bind (wpAny_seqItems hTI rfl ?_)))
  show wpAny _ _ (Builtin.SmallTypes.ownedTupleIsFree (.ref z) >>= _) _ _ _
  refine wpAny_bind ?_
  unfold Builtin.SmallTypes.ownedTupleIsFree
  refine wpAny_bind (wpAny_field hz rfl (x := .none) rfl (wpAny_pure ?_))
  simp only [if_true]
  refine wpAny_bind (wpAny_rule (wpAny_bind (wpAny_field hz rfl (x := .ref TO) rfl (wpAny_bind (wpAny_setField_rec hz (by simp) fun g1 z1 s1 => wpAny_bind ?_)))))
  replace z1 : ZipS g1 z TI TO .ellipsis := z1
  simp only [List.zipIdx_cons, List.zipIdx_nil, List.forIn_cons, List.forIn_nil]
  refine wpAny_bind (wpAny_bind (wpAny_onRaise ?_))
  show wpAny _ _ (Builtin.SmallTypes.nextOrEnd (.ref i1)) _ _ _
  refine nOE_end hh (h1.extBut s1.extBut D.i1z) (hl1.extBut s1.extBut D.l1z) hx fun g2 s2 => ?_
  have z2 : ZipS g2 z TI TO .ellipsis := s2 _ _ D.i1z.symm z1
  refine wpAny_bind (wpAny_setField_rec z2 (by simp) fun g3 z3 s3 => ?_)
  replace z3 : ZipS g3 z TI TO .none := z3
  refine wpAny_bind ?_
  refine wpAny_bind ?_
  simp only [List.drop_succ_cons, List.drop_zero, List.zipIdx_cons, List.zipIdx_nil, List.forIn_cons, List.forIn_nil]
  refine wpAny_bind (wpAny_bind ?_)
  refine nOE_end hh (((h2.extBut s1.extBut D.i2z).extBut s2 D.i12.symm).extBut s3.extBut D.i2z) (((hl2.extBut s1.extBut D.l2z).extBut s2 D.l2i1).extBut s3.extBut D.l2z) hy fun g4 s4 => ?_
  simp only [Option.isSome_none, Bool.false_eq_true, if_false]
  refine wpAny_pure (wpAny_pure ?_)
  refine wpAny_bind (wpAny_rule ?_)
  unfold Builtin.SmallTypes.stopIteration
  show wpAny _ _ (newExc (.type "StopIteration") [] >>= _) _ _ _
  refine wpAny_bind ?_
  simp only [newExc, newTuple]
  refine wpAny_bind (wpAny_newObj_type ?_ (by size_fits))
  refine wpAny_bind (m := firstArgMember _ _) (wpAny_of_eq (a := Value.none) (by first | rfl | (simp only [firstArgMember]; rfl)) ?_)
  refine wpAny_newObj_type ?_ (by size_fits)
  simp only [raiseNew]
  refine wpAny_bind (wpAny_handled ?_)
  rw [hh]
  refine wpAny_throw ?_
  exact hE _ _ (fun c o n1 _ n3 n4 q => Heap.get?_push_of_some _ (Heap.get?_push_of_some _ (s4 _ _ n4 (s3.extBut _ _ n1 (s2 _ _ n3 (s1.extBut _ _ n1 q)))))) ⟨_, Heap.get?_push_size _ rfl, rfl⟩
theorem zs_next_item {z TI TO i1 i2 l1 l2 : Addr} {k1 k2 : Nat} {xs ys : Array Value} {x y a b : Value} {Q : Option Value → Shared → Prop} (D : ZipApart z TI TO i1 i2 l1 l2)
    (hz : ZipS s.heap z TI TO .none) (hTI : IsPair s.heap TI (.ref i1) (.ref i2)) (hTO : IsPair s.heap TO a b)
    (h1 : s.heap.IsListIter i1 l1 k1) (h2 : s.heap.IsListIter i2 l2 k2) (hl1 : s.heap.IsList l1 xs) (hl2 : s.heap.IsList l2 ys) (hx : xs[k1]? = some x) (hy : ys[k2]? = some y)
    (hQ : ∀ h', ZipS h' z TI TO (rawInt s.heap.objs.size) → IsPair h' TO x y → h'.IsListIter i1 l1 (k1 + 1) → h'.IsListIter i2 l2 (k2 + 1) → IsPair h' s.heap.objs.size x y → h'.objs.size = s.heap.objs.size + 1 →
      (∀ c o, c ≠ z → c ≠ TO → c ≠ i1 → c ≠ i2 → s.heap.get? c = some o → h'.get? c = some o) → Q (some (.ref s.heap.objs.size)) { s with heap := h' }) :
    wpAny (model prog w) A (pyNext (.ref z)) Q E s := by
  have hT : s.TypeIs (.ref z) "zip" := ⟨_, hz, rfl⟩
  unfold pyNext
  exact wpAny_bind (wpAny_attempt (wpAny_callSpecial?_slot (name := Str.ofString "__next__") hT F.slot_zip_next
    (wpAny_call_entry F.slot_zip_next hT F.entry_zip_next (zs_item D hz hTI hTO h1 h2 hl1 hl2 hx hy fun h' a1 a2 a3 a4 a5 a6 a7 => wpAny_pure (hQ h' a1 a2 a3 a4 a5 a6 a7)) (F.args_zip_next_1 _))))
theorem zs_next_end {z TI TO i1 i2 l1 l2 : Addr} {k1 k2 : Nat} {xs ys : Array Value} {a b : Value} {Q : Option Value → Shared → Prop} (hh : A.handled = none) (D : ZipApart z TI TO i1 i2 l1 l2)
    (hz : ZipS s.heap z TI TO .none) (hTI : IsPair s.heap TI (.ref i1) (.ref i2)) (hTO : IsPair s.heap TO a b)
    (h1 : s.heap.IsListIter i1 l1 k1) (h2 : s.heap.IsListIter i2 l2 k2) (hl1 : s.heap.IsList l1 xs) (hl2 : s.heap.IsList l2 ys) (hx : xs[k1]? = none) (hy : ys[k2]? = none)
    (hQ : ∀ h', (∀ c o, c ≠ z → c ≠ TO → c ≠ i1 → c ≠ i2 → s.heap.get? c = some o → h'.get? c = some o) → Q none { s with heap := h' }) : wpAny (model prog w) A (pyNext (.ref z)) Q E s := by
  have hT : s.TypeIs (.ref z) "zip" := ⟨_, hz, rfl⟩
  unfold pyNext
  refine wpAny_bind (wpAny_attempt (wpAny_callSpecial?_slot (name := Str.ofString "__next__") hT F.slot_zip_next
    (wpAny_call_entry F.slot_zip_next hT F.entry_zip_next (zs_end hh D hz hTI hTO h1 h2 hl1 hl2 hx hy fun h' e hk he => ?_) (F.args_zip_next_1 _))))
  obtain ⟨o, ho, hc⟩ := he
  exact wpAny_bind (wpAny_isInstance (T := "StopIteration") (b := true) ⟨o, ho, hc⟩ isSubtype_stop (wpAny_pure (hQ _ hk)))
theorem zs_go {elts : List Expr} {x1 : Nat} {pos : Pos} {z TI TO T : Addr} {Q : Unit → Shared → Prop} (hz : ZipS s.heap z TI TO (rawInt T))
    (hQ : ∀ h', ZipS h' z TI TO .none → Heap.SameBut z s.heap h' → Q () { s with heap := h' }) : wpAny (model prog w) A (letOwnedTupleGo (.Tuple elts x1 pos) (.ref z) (.ref T)) Q E s := by
  unfold letOwnedTupleGo
  refine wpAny_bind (wpAny_load hz ?_)
  show wpAny _ _ (if (["enumerate", "zip", "dict_itemiterator", "dict_reverseitemiterator", "odict_iterator", "itertools.zip_longest", "itertools.pairwise"].contains "zip" &&
      (#[rawInt T, .bool false, .bool true, .ref TI, .ref TO] : Array Value)[0]? == some (rawInt T)) = true then _ else _) Q E s
  rw [if_pos (by simp)]
  refine wpAny_bind (wpAny_rule ?_)
  show wpAny _ _ (setField (.ref z) 0 .none) Q E s
  exact wpAny_setField_rec hz (by simp) fun h' hz' hs' => hQ h' hz' hs'
theorem zs_iter {z TI TO : Addr} {f0 : Value} {Q : Value → Shared → Prop} (hz : ZipS s.heap z TI TO f0) (h : Q (.ref z) s) : wpAny (model prog w) A (pyIter (.ref z)) Q E s := by
  have hT : s.TypeIs (.ref z) "zip" := ⟨_, hz, rfl⟩
  refine wpAny_pyIter_slot hT F.slot_zip_iter (wpAny_call_entry F.slot_zip_iter hT F.entry_zip_iter ?_ (F.args_zip_iter_1 _))
  show wpAny _ _ (ret (.ref z)) _ _ s
  exact wpAny_pure ⟨_, rfl, "zip", _, hT, F.slot_zip_next.lookup, h⟩
end
abbrev zipS5 (h : Heap) (l1 l2 : Addr) : Heap := (zipH4 h l1 l2).push { cls := .type "zip", data := .fields #[.none, .bool false, .bool true, .ref (zipH2 h l1 l2).objs.size, .ref (zipH3 h l1 l2).objs.size] }
theorem meets_zipS (l1 l2 : Addr) (xs ys : Array Value) :
    Meets (Builtin.«zip.__new__» ⟨[.type "zip", .ref l1, .ref l2], [(Str.ofString "strict", .bool true)]⟩) (fun _ R s => s.heap.IsList l1 xs ∧ s.heap.IsList l2 ys ∧
      R (.ok (.ret (.ref (zipH4 s.heap l1 l2).objs.size))) { s with heap := zipS5 s.heap l1 l2 }) :=
  .of_wp fun prog w A R s h => by
    obtain ⟨hp, g, d, tk, os⟩ := s; obtain ⟨hl1, hl2, h⟩ := h
    have hsub := sub_zip
    have e1 : (Str.ofString "strict" != ("strict" : Str)) = false := by decide +kernel
    have hL1 : Heap.IsList (Shared.heap ⟨hp, g, d, tk, os⟩) l1 xs := hl1
    have hL2 : Heap.IsList (Shared.heap ⟨hp.push { cls := .type "list_iterator", data := .fields #[.ref l1, .int 0 0] }, g, d, tk, os⟩) l2 ys := Heap.IsList.push hl2 _
    wp_walk using wpAny_pyIter_list hL1, wpAny_pyIter_list hL2
    exact ⟨_, rfl, h⟩
section
variable {prog : Program} {w : World} {A : Around} {E : Value → Shared → Prop} {s : Shared}
/-- the call: two iterators, two tuples, the zip -/
theorem call_zipS {l1 l2 : Addr} {xs ys : Array Value} {Q : Value → Shared → Prop} (hl1 : s.heap.IsList l1 xs) (hl2 : s.heap.IsList l2 ys)
    (h : ∀ h', ZipS h' (s.heap.objs.size + 4) (s.heap.objs.size + 2) (s.heap.objs.size + 3) .none → IsPair h' (s.heap.objs.size + 2) (.ref s.heap.objs.size) (.ref (s.heap.objs.size + 1)) →
      IsPair h' (s.heap.objs.size + 3) .none .none → h'.IsListIter s.heap.objs.size l1 0 → h'.IsListIter (s.heap.objs.size + 1) l2 0 → (∀ c o, s.heap.get? c = some o → h'.get? c = some o) → Q (.ref (s.heap.objs.size + 4)) { s with heap := h' }) :
    wpAny (model prog w) A (call (.type "zip") [.ref l1, .ref l2] [(Str.ofString "strict", .bool true)]) Q E s := by
  refine callType_newKw F.called_zip (by decide) (F_tcz _ _) (F_ncz _ _) (fun obj => F_aoz obj _ _) F.entry_zip_new (meets_zipS l1 l2 xs ys) ⟨hl1, hl2, ?_⟩
  have n1 : (zipH1 s.heap l1).objs.size = s.heap.objs.size + 1 := Heap.size_push ..
  have n2 : (zipH2 s.heap l1 l2).objs.size = s.heap.objs.size + 2 := by rw [Heap.size_push, n1]
  have n3 : (zipH3 s.heap l1 l2).objs.size = s.heap.objs.size + 3 := by rw [Heap.size_push, n2]
  have n4 : (zipH4 s.heap l1 l2).objs.size = s.heap.objs.size + 4 := by rw [Heap.size_push, n3]
  have old : ∀ c o, s.heap.get? c = some o → (zipH4 s.heap l1 l2).get? c = some o := fun c o q => Heap.get?_push_of_some _ (Heap.get?_push_of_some _ (Heap.get?_push_of_some _ (Heap.get?_push_of_some _ q)))
  have g5 : (zipS5 s.heap l1 l2).get? (zipH4 s.heap l1 l2).objs.size = some _ := Heap.get?_push_size _ rfl
  have g4 : (zipS5 s.heap l1 l2).get? (zipH3 s.heap l1 l2).objs.size = some _ := Heap.get?_push_of_some _ (Heap.get?_push_size _ rfl)
  have g3 : (zipS5 s.heap l1 l2).get? (zipH2 s.heap l1 l2).objs.size = some _ := Heap.get?_push_of_some _ (Heap.get?_push_of_some _ (Heap.get?_push_size _ rfl))
  have g2 : (zipS5 s.heap l1 l2).get? (zipH1 s.heap l1).objs.size = some _ := Heap.get?_push_of_some _ (Heap.get?_push_of_some _ (Heap.get?_push_of_some _ (Heap.get?_push_size _ rfl)))
  have g1 : (zipS5 s.heap l1 l2).get? s.heap.objs.size = some _ := Heap.get?_push_of_some _ (Heap.get?_push_of_some _ (Heap.get?_push_of_some _ (Heap.get?_push_of_some _ (Heap.get?_push_size _ rfl))))
  show _ ∧ _
  rw [n2, n3, n4] at g5
  rw [n1, n2] at g3
  rw [n3] at g4
  rw [n1] at g2
  rw [n4]
  exact ⟨⟨_, g5, rfl⟩, h _ g5 g3 g4 ⟨_, g1, rfl, rfl⟩ ⟨_, g2, rfl, rfl⟩ fun c o q => Heap.get?_push_of_some _ (old c o q)⟩
end
/-- a class called with keywords -/
theorem callWith_tk {M : Model} {A : Around} {E : Value → Shared → Prop} {s : Shared} {pos : Pos} {T : String} {first : List Value} {args : List (Bool × Sem Value)} {kws : List (Option Str × Sem Value)} {Q : Value → Shared → Prop}
    (hplain : args.any (·.1) = false) (hkw : kws.any (·.1.isNone) = false)
    (h : wpAny M A (evalArgs (.type T) true args kws) (fun a s₁ => wpAny M A (call (.type T) (first ++ a.pos) a.kw) Q E s₁) E s) : wpAny M A (callWith pos (.type T) first args kws) Q E s := by
  unfold callWith
  refine wpAny_bind (wpAny_holding (wpAny_mono h (fun a s₁ h₁ => wpAny_bind (wpAny_standAt ?_)) fun _ _ x => x))
  simp only [hplain, hkw, Bool.or_false]
  refine wpAny_bind (wpAny_pure ?_)
  exact wpAny_bind (wpAny_mono h₁ (fun r s₂ hr => wpAny_bind (wpAny_holding (wpAny_point (wpAny_pure hr)))) fun _ _ x => x)
/-- the lists at a and b, of one length, item by item in new pairs -/
def ItzS (K : PySem.W.Frag) (a b : Addr) : It :=
  ⟨(Itz K a b).go, (Itz K a b).yld, fun i H => ∃ xs ys : List V, SqL K H a xs ∧ SqL K H b ys ∧ xs.length ≤ i ∧ ys.length ≤ i⟩
theorem turn_zipS {P : Program} {w : World} {K : PySem.W.Frag} {elts : List Expr} {kk : Nat} {tpos : Pos} {a b z TI TO i1 i2 : Addr} (D : ZipApart z TI TO i1 i2 a b) :
    Turn P w K (.Tuple elts kk tpos) (ItzS K a b) [z, TI, TO, i1, i2] z (fun i h => ZipS h z TI TO .none ∧ IsPair h TI (.ref i1) (.ref i2) ∧ (∃ x y, IsPair h TO x y) ∧ h.IsListIter i1 a i ∧ h.IsListIter i2 b i) where
  mem := by simp
  obj := fun i h st c hc => by
    obtain ⟨hz, hTI, ⟨x, y, hTO⟩, ⟨o1, e1, _, d1⟩, ⟨o2, e2, _, d2⟩⟩ := st
    simp only [List.mem_cons, List.not_mem_nil, or_false] at hc
    rcases hc with q | q | q | q | q <;> rw [q]
    · exact ⟨_, hz, fun v q => nomatch q⟩
    · exact ⟨_, hTI, fun v q => nomatch q⟩
    · exact ⟨_, hTO, fun v q => nomatch q⟩
    · exact ⟨o1, e1, fun v q => by rw [d1] at q; cases q⟩
    · exact ⟨o2, e2, fun v q => by rw [d2] at q; cases q⟩
  keep := fun i h h' st k => by
    obtain ⟨hz, hTI, ⟨x, y, hTO⟩, h1, h2⟩ := st
    exact ⟨k z (by simp) _ hz, k TI (by simp) _ hTI, ⟨x, y, k TO (by simp) _ hTO⟩, h1.at fun o q => k i1 (by simp) o q, h2.at fun o q => k i2 (by simp) o q⟩
  item := by
    intro X hP hw hK hc i pins s σ H E I hf st hg
    subst hP hw hK
    obtain ⟨hz, hTI, ⟨x0, y0, hTO⟩, h1, h2⟩ := st
    obtain ⟨xs, ys, x, y, hqx, hqy, hx, hy⟩ := hg
    obtain ⟨its, rv, p, _⟩ := I.list hqx
    obtain ⟨its2, rv2, p2, _⟩ := I.list hqy
    obtain ⟨u, hu, ru⟩ := rv.get hx
    obtain ⟨u2, hu2, ru2⟩ := rv2.get hy
    have hzl : z < s.heap.objs.size := Heap.lt_size hz
    refine zs_next_item D hz hTI hTO h1 h2 p.isList p2.isList (x := u) (y := u2) (by simpa using hu) (by simpa using hu2) fun h' z' TO' h1' h2' hT hsz hk => ?_
    refine ⟨_, rfl, zs_go (s := { s with heap := h' }) z' fun h'' z'' sb => ?_⟩
    have hT2 : h''.get? s.heap.objs.size = some { cls := .type "tuple", data := .seq #[u, u2] } := (sb.2 _ (Nat.ne_of_gt hzl)).trans hT
    have new : ObjOk X.prog X.w (upd H s.heap.objs.size (.tup [x, y])) h'' s.heap.objs.size (.tup [x, y]) :=
      ⟨by show 2 ≤ sizeLine; decide, [u, u2], .cons ru (.cons ru2 .nil), ⟨_, hT2, rfl, _, rfl⟩⟩
    have I1 : Inv X pins σ (upd H s.heap.objs.size (.tup [x, y])) { s with heap := h'' } :=
      I.turnedNew (t' := s.toks) (ch := [z, TI, TO, i1, i2]) (fun c o hb q => (sb.2 c (fun q' => hb (by simp [q']))).trans (hk c o (fun q' => hb (by simp [q'])) (fun q' => hb (by simp [q'])) (fun q' => hb (by simp [q'])) (fun q' => hb (by simp [q'])) q)) hf (Nat.le_refl _) new
    refine ⟨.ref s.heap.objs.size, _, I1, rfl, ⟨_, x, y, rfl, I.hok.fresh (Nat.le_refl _), rfl, fun l hl => by rw [I.list_inj hl hqx]; exact hx, fun l hl => by rw [I.list_inj hl hqy]; exact hy⟩, ⟨z'', ?_, ⟨u, u2, ?_⟩, ?_, ?_⟩, fun c hcm => ?_⟩
    · exact (sb.2 _ D.TIz).trans (hk _ _ D.TIz D.TITO D.TIi1 D.TIi2 hTI)
    · exact (sb.2 _ D.TOz).trans TO'
    · exact h1'.at fun o q => (sb.2 _ D.i1z).trans q
    · exact h2'.at fun o q => (sb.2 _ D.i2z).trans q
    · have hlt : c < s.heap.objs.size := by
        simp only [List.mem_cons, List.not_mem_nil, or_false] at hcm
        rcases hcm with q | q | q | q | q <;> rw [q]
        · exact hzl
        · exact Heap.lt_size hTI
        · exact Heap.lt_size hTO
        · obtain ⟨_, e1, _⟩ := h1; exact Heap.lt_size e1
        · obtain ⟨_, e2, _⟩ := h2; exact Heap.lt_size e2
      rw [upd_ne (Nat.ne_of_lt hlt)]
      exact (hf c hcm).1
  done := by
    intro X hP hw hK hc i pins s σ H E I hf st hg
    subst hP hw hK
    obtain ⟨hz, hTI, ⟨x0, y0, hTO⟩, h1, h2⟩ := st
    obtain ⟨xs, ys, hqx, hqy, l1, l2⟩ := hg
    obtain ⟨its, rv, p, _⟩ := I.list hqx
    obtain ⟨its2, rv2, p2, _⟩ := I.list hqy
    have m1 := rv.length
    have m2 := rv2.length
    exact zs_next_end (I.ok.hd hc) D hz hTI hTO h1 h2 p.isList p2.isList (by simp; omega) (by simp; omega) fun h' hk => ⟨rfl, I.turnedL (t' := s.toks) (ch := [z, TI, TO, i1, i2]) (fun c o hb q =>
      hk c o (fun q' => hb (by simp [q'])) (fun q' => hb (by simp [q'])) (fun q' => hb (by simp [q'])) (fun q' => hb (by simp [q'])) q) hf⟩
  self := fun A i s Q E st h => zs_iter st.1 h
def iZipS (K : PySem.W.Frag) (ta : TA) : TI := fun σ H R => ta σ H fun vs H1 => ∃ a b xs ys, vs = [.ref a, .ref b] ∧ SqL K H1 a xs ∧ SqL K H1 b ys ∧ R (ItzS K a b) H1
theorem pi_zipS {X : Cx} {e e2 : Expr} {ta : TA} {p pos tpos cp kp : Pos} {elts : List Expr} {kk j : Nat} (hg : Gl X "zip") (hm : X.mg "zip" = none) (ha : PA X [e, e2] ta)
    (he : backTo pos (starEach [e, e2] X.env) = (false, eval e X.env) :: backTo pos (starEach [e2] X.env) := by rfl) (hpl : (backTo pos (starEach [e, e2] X.env)).any (·.1) = false := by rfl) :
    PI X (.Tuple elts kk tpos) (.Call (.Name "zip" p) [e, e2] [⟨some "strict", .Constant (.bool true) j cp, kp⟩] pos) (iZipS X.K ta) := by
  refine ⟨fun pins s σ H R I h => ?_⟩
  refine wpAny_Call_Name_kw (ld_blt I hg hm PyProof.Rows.boot_zip (callWith_tk hpl rfl ?_))
  rw [he]
  refine evalArgs_kwB rfl ?_
  rw [← he]
  refine thn (ha.run pos pins s σ H _ I h) fun us s1 ⟨vs, H1, I1, r1, q1⟩ => ?_
  refine kws_cons (Constant_bool (kws_nil ?_))
  obtain ⟨a, b, xs, ys, ex, hqx, hqy, q⟩ := q1
  subst ex
  cases r1 with
  | cons r rr =>
    cases rr with
    | cons r' rr =>
      cases rr
      cases r
      cases r'
      obtain ⟨its, rv, p1, _⟩ := I1.list hqx
      obtain ⟨its2, rv2, p2, _⟩ := I1.list hqy
      have la : a < s1.heap.objs.size := p1.lt
      have lb : b < s1.heap.objs.size := p2.lt
      refine call_zipS p1.isList p2.isList fun h' hz hTI hTO h1 h2 hk => zs_iter hz ?_
      have I2 : Inv X pins σ H1 { s1 with heap := h' } := I1.kept (t' := s1.toks) hk
      refine ⟨s1.heap.objs.size + 4, [s1.heap.objs.size + 4, s1.heap.objs.size + 2, s1.heap.objs.size + 3, s1.heap.objs.size, s1.heap.objs.size + 1], _, _, H1, rfl, I2, turn_zipS (PySem.W.ktu_apart s1.heap.objs.size a b la lb), ⟨hz, hTI, ⟨_, _, hTO⟩, h1, h2⟩, fun c hcm => ?_, q⟩
      have hle : s1.heap.objs.size ≤ c := by
        simp only [List.mem_cons, List.not_mem_nil, or_false] at hcm
        rcases hcm with z | z | z | z | z <;> rw [z] <;> omega
      exact I1.fpOk hle (I1.hok.fresh hle)
section
variable {X : Cx} {F : Fr} {s : S} {a b : Expr} {p pos tpos cp kp : Pos} {elts : List Expr} {kk j : Nat} {Θ : Nat → (Nat → E → Prop) → S → Prop}
/-- two whole frozen lists of one length, in pairs -/
def itZ (ds es : List D) : Nat → E → Prop := fun i e => ∃ d d2, ds[i]? = some d ∧ es[i]? = some d2 ∧ e = .d (.nd .tup [d, d2])
theorem ji_zipS (g : GlB X "zip") (h : JE X F a s fun e1 s1 => JE X F b s1 fun e2 s2 => ∃ ds es, e1 = .d (.nd .lst ds) ∧ e2 = .d (.nd .lst es) ∧ ds.length = es.length ∧ Θ ds.length (itZ ds es) s2)
    (ns : NoStar a := by intro _ _; rfl) (ns2 : NoStar b := by intro _ _; rfl) : JI X F (.Tuple elts kk tpos) (.Call (.Name "zip" p) [a, b] [⟨some "strict", .Constant (.bool true) j cp, kp⟩] pos) s Θ := fun as G H σ R c k => by
  refine PI.sem (pi_zipS g.gl g.mg (pa_cons (pe_sem X a) (pa_cons (pe_sem X b) pa_nil (ns2 _ _)) (ns _ _)) (by rw [ns, ns2]; rfl) (by rw [ns, ns2]; rfl)) ?_
  refine h as G H σ _ c fun v1 as1 G1 H1 e1 s1 c1 x1 ve1 h1 => h1 as1 G1 H1 σ _ c1 fun v2 as2 G2 H2 e2 s2 c2 x2 ve2 ⟨ds, es, q1, q2, hl, q⟩ => ?_
  subst q1 q2
  cases ve1 with
  | @nd l1 vs _ _ n r =>
    cases ve2 with
    | @nd l2 ws _ _ n2 r2 =>
      have n : SqL X.K G1 l1 vs := n
      have n2 : SqL X.K G2 l2 ws := n2
      have n3 : SqL X.K G2 l1 vs := (show NodeAt X.K G1 l1 vs .lst from n).mono x2.sub
      have r3 : Reps X.K G2 vs ds := r.mono x2.sub
      have at1 : ∀ {as' : List Addr} {G' H' : Hp} {σ' : L2.St} {s' : S}, Cz X F as' G' H' σ' s' → Same G2 G' → SqL X.K H' l1 vs := fun c' x => ((show NodeAt X.K G2 l1 vs .lst from n3).mono x).mono c'.sub
      have at2 : ∀ {as' : List Addr} {G' H' : Hp} {σ' : L2.St} {s' : S}, Cz X F as' G' H' σ' s' → Same G2 G' → SqL X.K H' l2 ws := fun c' x => ((show NodeAt X.K G2 l2 ws .lst from n2).mono x).mono c'.sub
      have el1 : vs.length = ds.length := r3.length
      have el2 : ws.length = es.length := r2.length
      refine ⟨l1, l2, vs, ws, rfl, (show NodeAt X.K G2 l1 vs .lst from n3).mono c2.sub, (show NodeAt X.K G2 l2 ws .lst from n2).mono c2.sub, k (ItzS X.K l1 l2) as2 G2 H2 s2 ds.length (itZ ds es) c2 (x1.trans x2) ?_ q⟩
      refine ⟨fun as' G' H' σ' s' c' x => ⟨vs, ws, at1 c' x, at2 c' x, by omega, by omega⟩, fun i as' G' H' σ' s' hi c' x => ⟨vs, ws, vs[i]'(by omega), ws[i]'(by omega), at1 c' x, at2 c' x, List.getElem?_eq_getElem _, List.getElem?_eq_getElem _⟩,
        fun i as' G' H' σ' s' y H3 hi c' x q => ?_, fun i as' G' H' σ' s' y H3 hi c' x q => ?_⟩
      · obtain ⟨T, u, u2, rfl, hT, rfl, g1, g2⟩ := q
        obtain ⟨d, e1, e2⟩ := r3.get' (g1 vs (at1 c' x))
        obtain ⟨d2, e3, e4⟩ := r2.get' (g2 ws (at2 c' x))
        have sg : Same G' (upd G' T (.tup [u, u2])) := same_new (c'.gnone hT)
        refine ⟨upd G' T (.tup [u, u2]), .d (.nd .tup [d, d2]), c'.addG hT, ⟨sg, fun b0 hb hg => ?_⟩, ?_, d, d2, e1, e3, rfl⟩
        · rw [upd_ne (fun z => hb (by rw [z]; exact hT))]; exact hg
        · exact .nd (k := .tup) (SqT.of upd_same) (.cons ((e2.mono x).mono sg) (.cons ((e4.mono x).mono sg) .nil))
      · obtain ⟨T, u, u2, rfl, hT, rfl, g1, g2⟩ := q
        exact same_new hT
end
end DL
namespace DL
open PySem PySem.Spec PyProof.Rows L2
/-! ### [elt for a, b in zip(x, y, strict=True)], pure -/
def gP2 (K : PySem.W.Frag) (j1 j2 : Nat) : TG := gTup K 2 (gCons (gName j1) (gCons (gName j2) gNil))
/-- the state in the block -/
def S.blk2 (s : S) (vs : List Nat) (acc : List E) (j1 : Nat) (v1 : E) (j2 : Nat) (v2 : E) : S := (((s.wipe vs).push .lst acc).set j1 v1).set j2 v2
section
variable {X : Cx} {F : Fr} {s : S} {elt iter : Expr} {scope : Scope} {own : List (Str × Nat)} {pos p1 p2 tp : Pos} {x1 x2 : Str} {j1 j2 kk B : Nat}
theorem pg_B2 (bx : Bx X B) (hn1 : ∀ Y, IsBlk X scope Y → NmW Y j1 x1) (hn2 : ∀ Y, IsBlk X scope Y → NmW Y j2 x2) (st : Shared) (H : Hp) (C : Addr) (cl : List (Str × Addr)) (fp : List Addr) :
    PG (X.blk st H scope (compEnvC scope cl C X.env) fp) (.Tuple [.Name x1 p1, .Name x2 p2] kk tp) (gP2 X.K j1 j2) := by
  have m1 := hn1 _ ⟨st, H, C, cl, fp, rfl⟩
  have m2 := hn2 _ ⟨st, H, C, cl, fp, rfl⟩
  exact pg_tup (n := 2) bx.calm (pgs_cons (pg_name m1.nd m1.nm m1.loc m1.hf) (pgs_cons (pg_name m2.nd m2.nm m2.loc m2.hf) pgs_nil))
/-- pairs of two lists, the element pure -/
def LcZ (X : Cx) (F : Fr) (tg iter elt : Expr) (scope : Scope) (vs : List Nat) (j1 j2 : Nat) (s : S) (Θ : List D → Prop) : Prop :=
  JI X F tg iter s fun n it s1 => s1 = s ∧ n ≤ 16000000 ∧ ∃ (ds es : List D) (f : Nat → D), it = itZ ds es ∧
    (∀ i d1 d2 acc, i < n → ds[i]? = some d1 → es[i]? = some d2 → ∀ Y, IsBlk X scope Y → JE Y F elt (s.blk2 vs acc j1 (.d d1) j2 (.d d2)) fun y s3 => y = .d (f i) ∧ s3 = s.blk2 vs acc j1 (.d d1) j2 (.d d2)) ∧ Θ ((List.range n).map f)
theorem push_wipe {vs : List Nat} {acc : List E} : ((s.wipe vs).push .lst acc).wipe vs = (s.wipe vs).push .lst acc := by
  have h := congrArg S.sl (wipe_wipe (s := s) (vs := vs))
  have h : wipeN (wipeN s.sl vs) vs = wipeN s.sl vs := h
  show (⟨wipeN (wipeN s.sl vs) vs, _, _⟩ : S) = ⟨wipeN s.sl vs, _, _⟩
  rw [h]
  rfl
theorem push_put {vs : List Nat} {acc acc' : List E} : ((s.wipe vs).push .lst acc).put s.ce.length .lst acc' = (s.wipe vs).push .lst acc' := by
  show (⟨_, setN (s.ce ++ [Cell.nd .lst _]) s.ce.length _, _⟩ : S) = ⟨_, s.ce ++ [_], _⟩
  rw [setN_eq, List.set_append_right _ _ (Nat.le_refl _)]
  simp
  exact ⟨rfl, rfl⟩
theorem lcZ_read {Θ : List D → Prop} (hj1 : j1 ∈ own.map (·.2)) (hj2 : j2 ∈ own.map (·.2)) {tg : Expr} (h : LcZ X F tg iter elt scope (own.map (·.2)) j1 j2 s Θ) :
    ∀ as G H σ (Q : VK), Cz X F as G H σ s → (∀ v as' G' H' ds, Cz X F as' G' H' σ (s.push .lst (ds.map .d)) → Ext as as' G G' → VE X.K G' as' v (.r s.ce.length) → Θ ds → Q v H') → tLc (semI X tg iter) (gP2 X.K j1 j2) (ttB X scope []) (teB X scope elt) (own.map (·.2)) σ H Q := by
  refine fun as G H σ Q c k => h as G H σ _ c fun J as1 G1 H1 s1 n it c1 x1 okJ ⟨q1, q2, ds, es, f, q3, q4, q5⟩ => ?_
  subst q1 q3
  intro D hD
  have c1' := (c1.wipe (own.map (·.2))).addO (kd := .lst) (o := .lst []) (vs := []) (es := []) hD upd_same .nil
  have hk : s1.ce.length = as1.length := c1.len.symm
  refine ⟨fun i m H' => m = n - i ∧ i ≤ n ∧ ∃ as' G', Cz X F as' G' H' (wipe σ (own.map (·.2))) ((s1.wipe (own.map (·.2))).push .lst (((List.range i).map f).map .d)) ∧ as1 ++ [D] <+: as' ∧ Same G1 G', ⟨n, by simp, Nat.zero_le _, _, _, c1', List.prefix_refl _, Same.refl _⟩, ?_⟩
  rintro i m H' ⟨rfl, hi, as', G', c', pr, sg⟩
  have prD : as'[s1.ce.length]? = some D := pre_get pr (by rw [hk, List.getElem?_append_right (Nat.le_refl _)]; simp)
  by_cases hlt : i < n
  · refine .inr ⟨okJ.go i as' G' H' _ _ hlt c' sg, fun H2 => ∃ as' G', Cz X F as' G' H2 (wipe σ (own.map (·.2))) ((s1.wipe (own.map (·.2))).push .lst (((List.range (i + 1)).map f).map .d)) ∧ as1 ++ [D] <+: as' ∧ Same G1 G', fun H2 ⟨as2, G2, c2, p2, g2⟩ => ⟨n - (i + 1), by omega, rfl, hlt, as2, G2, c2, p2, g2⟩, fun v H2 y => ?_⟩
    obtain ⟨G2, e, c2, ⟨x2, _⟩, ve, d1, d2, e1, e2, rfl⟩ := okJ.yld i as' G' H' _ _ v H2 hlt c' sg y
    cases ve with
    | @nd a us _ _ nn rr =>
      cases rr with
      | @cons v1 _ _ _ r1 rr =>
        cases rr with
        | @cons v2 _ _ _ r2 rr =>
          cases rr
          have c3 := (c2.set (i := j1) (e := .d d1) r1).set (i := j2) (e := .d d2) r2
          have ws : wipe (((wipe σ (own.map (·.2))).set j1 (some v1)).set j2 (some v2)) (own.map (·.2)) = wipe σ (own.map (·.2)) := wipe_same (by rw [List.length_set, List.length_set, wipe_length]) fun l hl => by
            rw [List.getElem?_set_ne (fun z => hl (by rw [← z]; exact hj2)), List.getElem?_set_ne (fun z => hl (by rw [← z]; exact hj1)), wipe_out' hl]
          refine ⟨a, [v1, v2], rfl, (show NodeAt X.K G2 a [v1, v2] .tup from nn).mono c2.sub, rfl, v1, [v2], rfl, v2, [], rfl, rfl, ws, ?_⟩
          refine fun Y hY pins st I => jts_run (F := F) (ifs := []) (Ψ := fun b s2 => b = true ∧ s2 = s1.blk2 (own.map (·.2)) (((List.range i).map f).map .d) j1 (.d d1) j2 (.d d2)) ⟨rfl, rfl⟩ (cz_blk hY c3) (fun b as4 G4 H4 s4 c4 x4 ⟨qb, qs⟩ => ?_) pins st I
          subst qb qs
          simp only [if_true]
          refine fun Y2 hY2 => q4 i d1 d2 _ hlt e1 e2 Y2 hY2 as4 G4 H4 _ _ (cz_blk hY2 (cz_ublk hY c4)) fun y as5 G5 H5 y' s5 c5 x5 ve5 ⟨w1, w2⟩ => ?_
          subst w1 w2
          have c5 := cz_ublk hY2 c5
          rw [hY2.K] at ve5
          have p5 : as1 ++ [D] <+: as5 := (pr.trans x4.pre).trans x5.pre
          have prD5 : as5[s1.ce.length]? = some D := pre_get p5 (by rw [hk, List.getElem?_append_right (Nat.le_refl _)]; simp)
          have hce : (s1.blk2 (own.map (·.2)) (((List.range i).map f).map .d) j1 (.d d1) j2 (.d d2)).ce[s1.ce.length]? = some (.nd .lst (((List.range i).map f).map .d)) := by
            show (s1.ce ++ [Cell.nd .lst _])[s1.ce.length]? = _
            rw [List.getElem?_append_right (Nat.le_refl _)]; simp
          obtain ⟨b, ws5, y1, y2, y3⟩ := c5.cells _ _ _ hce
          rw [prD5] at y1
          cases y1
          have y2' : H5 D = some (.lst ws5) := y2
          have hl := Paired.length y3
          refine ⟨ws5, y2', by rw [hl, List.length_map, List.length_map, List.length_range, sizeLine_eq]; omega, ?_⟩
          have c6 := (c5.put (kd := .lst) (es := ((List.range i).map f).map .d ++ [.d (f i)]) (o := .lst (ws5 ++ [y])) hce prD5 upd_same (y3.snoc ve5)).wipe (own.map (·.2))
          rw [ws] at c6
          have eS : ((s1.blk2 (own.map (·.2)) (((List.range i).map f).map .d) j1 (.d d1) j2 (.d d2)).put s1.ce.length .lst (((List.range i).map f).map .d ++ [.d (f i)])).wipe (own.map (·.2)) = (s1.wipe (own.map (·.2))).push .lst (((List.range (i + 1)).map f).map .d) := by
            show (((((s1.wipe (own.map (·.2))).push .lst (((List.range i).map f).map .d)).put s1.ce.length .lst (((List.range i).map f).map .d ++ [.d (f i)])).set j1 (.d d1)).set j2 (.d d2)).wipe (own.map (·.2)) = _
            rw [set_wipe hj2, set_wipe hj1, push_put, push_wipe, List.range_succ]
            simp
          rw [eS] at c6
          exact ⟨as5, G5, c6, p5, ((sg.trans x2).trans x4.sub).trans x5.sub⟩
  · have e : i = n := by omega
    subst e
    refine .inl ⟨okJ.stop as' G' H' _ _ c' sg, ?_⟩
    have x : Ext as1 as' G1 G' := ⟨pre_snoc.trans pr, sg⟩
    exact k _ as' G' H' _ (c1.back c' x) (x1.trans x) ⟨D, prD, rfl⟩ q5
/-- .. frozen -/
theorem je_lcZ {Φ : E → S → Prop} (bx : Bx X B) (ok : BlkOk X.N X.env.scope scope own) (hj1 : j1 ∈ own.map (·.2)) (hj2 : j2 ∈ own.map (·.2)) (hn1 : ∀ Y, IsBlk X scope Y → NmW Y j1 x1) (hn2 : ∀ Y, IsBlk X scope Y → NmW Y j2 x2)
    (h : LcZ X F (.Tuple [.Name x1 p1, .Name x2 p2] kk tp) iter elt scope (own.map (·.2)) j1 j2 s fun ds => Φ (.d (.nd .lst ds)) s)
    (hs : ∀ x, foldedSetIterable iter X.env x = pure x := by intro _; rfl) : JE X F (.ListComp elt [⟨.Tuple [.Name x1 p1, .Name x2 p2] kk tp, iter, [], 0⟩] scope pos) s Φ :=
  je_pop (kd := .lst) (je_of (pe_lc bx.calm bx.nd (pi_sem X _ iter) ok (pg_B2 bx hn1 hn2) pts_B pe_B hs) fun as G H σ Q c k => lcZ_read hj1 hj2 h as G H σ Q c fun v as' G' H' ds c' x' ve q => k v as' G' H' _ _ c' x' ve ⟨ds, rfl, rfl, q⟩)
/-- name = .. on one line -/
theorem js_setLcZ {i : Nat} {y : Str} {py spos : Pos} {P : Po} (bx : Bx X B) (ny : NmW X i y) (ly : X.env.scope.names.lookup y = some .local) (hsw : swapsWith (.ListComp elt [⟨.Tuple [.Name x1 p1, .Name x2 p2] kk tp, iter, [], 0⟩] scope pos) (some (.Name y py)) spos.line X.env = pure true)
    (ok : BlkOk X.N X.env.scope scope own) (hj1 : j1 ∈ own.map (·.2)) (hj2 : j2 ∈ own.map (·.2)) (hn1 : ∀ Y, IsBlk X scope Y → NmW Y j1 x1) (hn2 : ∀ Y, IsBlk X scope Y → NmW Y j2 x2)
    (h : LcZ X F (.Tuple [.Name x1 p1, .Name x2 p2] kk tp) iter elt scope (own.map (·.2)) j1 j2 s fun ds => P.nx (s.set i (.d (.nd .lst ds))))
    (hs : ∀ x, foldedSetIterable iter X.env x = pure x := by intro _; rfl) : JS X F (.Assign [.Name y py] (.ListComp elt [⟨.Tuple [.Name x1 p1, .Name x2 p2] kk tp, iter, [], 0⟩] scope pos) spos) s P := fun as G H σ D c k =>
  PS.sem (ps_setLc bx.calm bx.nd ny.nm ly hsw (pi_sem X _ iter) ok (pg_B2 bx hn1 hn2) pts_B pe_B hs) (lcZ_read hj1 hj2 h as G H σ _ c fun v as1 G1 H1 ds c1 x1 ve q => by
    obtain ⟨G2, c2, sg, rep⟩ := c.popFrz c1 x1
    obtain ⟨b, hb, rfl⟩ := ve
    exact k.nx as G2 H1 _ _ (c2.set (i := i) (e := .d (.nd .lst ds)) (rep b hb)) (x1.sub.trans sg) q)
end
end DL
namespace DL
open PySem PySem.Spec PyProof.Rows L2
section
variable {X : Cx} {F : Fr} {s : S} {Φ : E → S → Prop}
theorem VEs_app {K : PySem.W.Frag} {G : Hp} {as : List Addr} {vs ws : List V} {es fs : List E} (h : VEs K G as vs es) (h2 : VEs K G as ws fs) : VEs K G as (vs ++ ws) (es ++ fs) := by
  induction h with
  | nil => exact h2
  | cons a t ih => exact .cons a ih
/-- xs + ys, lists: a new one, owned -/
theorem jr_catO {e1 e2 : E} {ds1 ds2 : List D} (h1 : s.node e1 = some (.lst, ds1.map .d)) (h2 : s.node e2 = some (.lst, ds2.map .d)) (hl : ds1.length + ds2.length ≤ sizeLine) (q : Φ (.r s.ce.length) (s.push .lst ((ds1 ++ ds2).map .d))) : JR X F (binaryOp .Add) e1 e2 s Φ :=
  jr_of op_catS fun as G H σ x y Q c v1 v2 k => by
    obtain ⟨a, vs, rfl, n1, w1⟩ := c.node v1 h1
    obtain ⟨b, ws, rfl, n2, w2⟩ := c.node v2 h2
    refine ⟨a, b, vs, ws, rfl, rfl, n1, n2, by rw [w1.reps.length, w2.reps.length]; exact hl, fun p hp => ?_⟩
    have w : VEs X.K G as (vs ++ ws) ((ds1 ++ ds2).map .d) := by rw [List.map_append]; exact VEs_app w1 w2
    exact k _ _ G _ (.r s.ce.length) _ (c.addO (kd := .lst) hp upd_same w) ⟨pre_snoc, Same.refl _⟩ ⟨p, by rw [← c.len, List.getElem?_append_right (Nat.le_refl _)]; simp, rfl⟩ q
end
end DL
namespace DL
open PySem PySem.Spec PyProof.Rows L2
/-! ### zip(a, b, c, strict=True) over three lists of one length -/
theorem F_tcz3 (a b c : Value) : checkTypeCall "zip" ⟨[a, b, c], [(Str.ofString "strict", .bool true)]⟩ = pure () := by kernel_rfl
theorem F_ncz3 (a b c : Value) : checkBuiltinCall "zip.__new__" ⟨[.type "zip", a, b, c], [(Str.ofString "strict", .bool true)]⟩ = pure () := by kernel_rfl
theorem F_aoz3 (obj a b c : Value) : argsOk "object.__init__" ⟨[obj, a, b, c], [(Str.ofString "strict", .bool true)]⟩ := by unfold argsOk; kernel_rfl
abbrev IsTrip (h : Heap) (T : Nat) (a b c : Value) : Prop := h.get? T = some { cls := .type "tuple", data := .seq #[a, b, c] }
section
variable {prog : Program} {w : World} {A : Around} {E : Value → Shared → Prop} {s : Shared}
theorem wpAny_updateSeq_trip {T : Nat} {a b c x : Value} {k : Nat} {Q : Unit → Shared → Prop} (hT : IsTrip s.heap T a b c)
    (h : ∀ h', h'.get? T = some { cls := .type "tuple", data := .seq ((#[a, b, c] : Array Value).setIfInBounds k x) } → Heap.SameBut T s.heap h' → Q () { s with heap := h' }) :
    wpAny (model prog w) A (updateSeq T (·.setIfInBounds k x)) Q E s := by
  refine wpAny_updateSeq hT rfl (h _ ?_ (Heap.SameBut.update ..))
  rw [Heap.get?_update_self _ hT rfl]
  simp [Obj.mapSeq]
theorem z3_item {I l1 l2 l3 k : Nat} {xs ys zs : Array Value} {x y u a b c : Value} {Q : Value → Shared → Prop} (D : l1 < I ∧ l2 < I ∧ l3 < I)
    (hz : ZipS s.heap (I + 5) (I + 3) (I + 4) .none) (hTI : IsTrip s.heap (I + 3) (.ref I) (.ref (I + 1)) (.ref (I + 2))) (hTO : IsTrip s.heap (I + 4) a b c)
    (h1 : s.heap.IsListIter I l1 k) (h2 : s.heap.IsListIter (I + 1) l2 k) (h3 : s.heap.IsListIter (I + 2) l3 k) (hl1 : s.heap.IsList l1 xs) (hl2 : s.heap.IsList l2 ys) (hl3 : s.heap.IsList l3 zs) (hx : xs[k]? = some x) (hy : ys[k]? = some y) (hu : zs[k]? = some u)
    (hQ : ∀ h', ZipS h' (I + 5) (I + 3) (I + 4) (rawInt s.heap.objs.size) → IsTrip h' (I + 4) x y u → h'.IsListIter I l1 (k + 1) → h'.IsListIter (I + 1) l2 (k + 1) → h'.IsListIter (I + 2) l3 (k + 1) → IsTrip h' s.heap.objs.size x y u → h'.objs.size = s.heap.objs.size + 1 →
      (∀ (e : Nat) o, e ≠ I + 5 → e ≠ I + 4 → e ≠ I → e ≠ I + 1 → e ≠ I + 2 → s.heap.get? e = some o → h'.get? e = some o) → Q (.ref s.heap.objs.size) { s with heap := h' }) :
    wpAny (model prog w) A (Builtin.«zip.__next__» ⟨[.ref (I + 5)], []⟩) (fun fin s' => ∃ v, fin = .done (.ret v) ∧ Q v s') E s := by
  obtain ⟨D1, D2, D3⟩ := D
  show wpAny _ _ (field (.ref (I + 5)) 2 >>= _) _ _ _
  refine wpAny_bind (wpAny_field hz rfl (x := .bool true) rfl ?_)
  show wpAny _ _ (field (.ref (I + 5)) 3 >>= _) _ _ _
  refine wpAny_bind (wpAny_field hz rfl (x := .ref (I + 3)) rfl (wpAny_bind (wpAny_seqItems hTI rfl ?_)))
  show wpAny _ _ (Builtin.SmallTypes.ownedTupleIsFree (.ref (I + 5)) >>= _) _ _ _
  refine wpAny_bind ?_
  unfold Builtin.SmallTypes.ownedTupleIsFree
  refine wpAny_bind (wpAny_field hz rfl (x := .none) rfl (wpAny_pure ?_))
  simp only [if_true]
  refine wpAny_bind (wpAny_rule (wpAny_bind (wpAny_field hz rfl (x := .ref (I + 4)) rfl (wpAny_bind (wpAny_setField_rec hz (by simp) fun g1 z1 s1 => wpAny_bind ?_)))))
  replace z1 : ZipS g1 (I + 5) (I + 3) (I + 4) .ellipsis := z1
  simp only [List.zipIdx_cons, List.zipIdx_nil, List.forIn_cons, List.forIn_nil]
  refine wpAny_bind (wpAny_bind (wpAny_onRaise ?_))
  show wpAny _ _ (Builtin.SmallTypes.nextOrEnd (.ref I)) _ _ _
  refine nOE_item (h1.extBut s1.extBut (by show @Ne Nat _ _; omega)) (hl1.extBut s1.extBut (by show @Ne Nat _ _; omega)) hx fun g2 a2 s2 => ?_
  have t2 : IsTrip g2 (I + 4) a b c := s2.extBut _ _ (by show @Ne Nat _ _; omega) (s1.extBut _ _ (by show @Ne Nat _ _; omega) hTO)
  refine wpAny_bind (wpAny_seqItems t2 rfl (wpAny_bind (wpAny_updateSeq_trip t2 fun g3 t3 s3 => wpAny_bind (wpAny_letGo (wpAny_pure ?_)))))
  replace t3 : IsTrip g3 (I + 4) x b c := t3
  refine wpAny_bind (wpAny_bind (wpAny_onRaise ?_))
  show wpAny _ _ (Builtin.SmallTypes.nextOrEnd (.ref (I + 1))) _ _ _
  refine nOE_item (((h2.extBut s1.extBut (by show @Ne Nat _ _; omega)).extBut s2.extBut (by show @Ne Nat _ _; omega)).extBut s3.extBut (by show @Ne Nat _ _; omega)) (((hl2.extBut s1.extBut (by show @Ne Nat _ _; omega)).extBut s2.extBut (by show @Ne Nat _ _; omega)).extBut s3.extBut (by show @Ne Nat _ _; omega)) hy fun g4 a4 s4 => ?_
  have t4 : IsTrip g4 (I + 4) x b c := s4.extBut _ _ (by show @Ne Nat _ _; omega) t3
  refine wpAny_bind (wpAny_seqItems t4 rfl (wpAny_bind (wpAny_updateSeq_trip t4 fun g5 t5 s5 => wpAny_bind (wpAny_letGo (wpAny_pure ?_)))))
  replace t5 : IsTrip g5 (I + 4) x y c := t5
  refine wpAny_bind (wpAny_bind (wpAny_onRaise ?_))
  show wpAny _ _ (Builtin.SmallTypes.nextOrEnd (.ref (I + 2))) _ _ _
  refine nOE_item (((((h3.extBut s1.extBut (by show @Ne Nat _ _; omega)).extBut s2.extBut (by show @Ne Nat _ _; omega)).extBut s3.extBut (by show @Ne Nat _ _; omega)).extBut s4.extBut (by show @Ne Nat _ _; omega)).extBut s5.extBut (by show @Ne Nat _ _; omega)) (((((hl3.extBut s1.extBut (by show @Ne Nat _ _; omega)).extBut s2.extBut (by show @Ne Nat _ _; omega)).extBut s3.extBut (by show @Ne Nat _ _; omega)).extBut s4.extBut (by show @Ne Nat _ _; omega)).extBut s5.extBut (by show @Ne Nat _ _; omega)) hu fun g6 a6 s6 => ?_
  have t6 : IsTrip g6 (I + 4) x y c := s6.extBut _ _ (by show @Ne Nat _ _; omega) t5
  refine wpAny_bind (wpAny_seqItems t6 rfl (wpAny_bind (wpAny_updateSeq_trip t6 fun g7 t7 s7 => wpAny_bind (wpAny_letGo (wpAny_pure (wpAny_pure ?_))))))
  replace t7 : IsTrip g7 (I + 4) x y u := t7
  have ext : ∀ (e : Nat) o, e ≠ I + 5 → e ≠ I + 4 → e ≠ I → e ≠ I + 1 → e ≠ I + 2 → s.heap.get? e = some o → g7.get? e = some o := fun e o n1 n2 n3 n4 n5 q =>
    s7.extBut _ _ n2 (s6.extBut _ _ n5 (s5.extBut _ _ n2 (s4.extBut _ _ n4 (s3.extBut _ _ n2 (s2.extBut _ _ n3 (s1.extBut _ _ n1 q))))))
  have zz : g7.objs.size = s.heap.objs.size := by rw [s7.1, s6.1, s5.1, s4.1, s3.1, s2.1, s1.1]
  have z5 : ZipS g7 (I + 5) (I + 3) (I + 4) .ellipsis := s7.extBut _ _ (by show @Ne Nat _ _; omega) (s6.extBut _ _ (by show @Ne Nat _ _; omega) (s5.extBut _ _ (by show @Ne Nat _ _; omega) (s4.extBut _ _ (by show @Ne Nat _ _; omega) (s3.extBut _ _ (by show @Ne Nat _ _; omega) (s2.extBut _ _ (by show @Ne Nat _ _; omega) z1)))))
  have b1 : g7.IsListIter I l1 (k + 1) := ((((a2.extBut s3.extBut (by show @Ne Nat _ _; omega)).extBut s4.extBut (by show @Ne Nat _ _; omega)).extBut s5.extBut (by show @Ne Nat _ _; omega)).extBut s6.extBut (by show @Ne Nat _ _; omega)).extBut s7.extBut (by show @Ne Nat _ _; omega)
  have b2 : g7.IsListIter (I + 1) l2 (k + 1) := ((a4.extBut s5.extBut (by show @Ne Nat _ _; omega)).extBut s6.extBut (by show @Ne Nat _ _; omega)).extBut s7.extBut (by show @Ne Nat _ _; omega)
  have b3 : g7.IsListIter (I + 2) l3 (k + 1) := a6.extBut s7.extBut (by show @Ne Nat _ _; omega)
  refine wpAny_bind (wpAny_seqItems t7 rfl (wpAny_bind (wpAny_newTuple ?_)))
  show wpAny _ _ (Builtin.SmallTypes.ownedTupleHandOut (.ref (I + 5)) (.ref g7.objs.size) >>= _) _ _ _
  refine wpAny_bind ?_
  unfold Builtin.SmallTypes.ownedTupleHandOut
  have z6 : ZipS (g7.push { cls := .type "tuple", data := .seq #[x, y, u] }) (I + 5) (I + 3) (I + 4) .ellipsis := Heap.get?_push_of_some _ z5
  refine wpAny_bind (wpAny_setField_rec z6 (by simp) fun g8 z7 s8 => ?_)
  replace z7 : ZipS g8 (I + 5) (I + 3) (I + 4) (rawInt g7.objs.size) := z7
  refine wpAny_setField_rec z7 (by simp) fun g9 z8 s9 => ?_
  replace z8 : ZipS g9 (I + 5) (I + 3) (I + 4) (rawInt g7.objs.size) := z8
  have up : ∀ (e : Nat) o, e ≠ I + 5 → g7.get? e = some o → g9.get? e = some o := fun e o n q => s9.extBut _ _ n (s8.extBut _ _ n (Heap.get?_push_of_some _ q))
  have zl : I + 5 < g7.objs.size := Heap.lt_size z5
  have t8 : IsTrip g9 g7.objs.size x y u := s9.extBut _ _ (Nat.ne_of_gt zl) (s8.extBut _ _ (Nat.ne_of_gt zl) (Heap.get?_push_size _ rfl))
  have w8 : g9.objs.size = g7.objs.size + 1 := by rw [s9.1, s8.1, Heap.size_push]
  refine wpAny_pure ⟨_, rfl, ?_⟩
  show Q (.ref g7.objs.size) _
  rw [zz] at z8 t8 w8 ⊢
  exact hQ g9 z8 (up _ _ (by show @Ne Nat _ _; omega) t7) (b1.at fun o q => up _ o (by show @Ne Nat _ _; omega) q) (b2.at fun o q => up _ o (by show @Ne Nat _ _; omega) q) (b3.at fun o q => up _ o (by show @Ne Nat _ _; omega) q) t8 w8 fun e o n1 n2 n3 n4 n5 q => up e o n1 (ext e o n1 n2 n3 n4 n5 q)
theorem z3_end {I l1 l2 l3 k : Nat} {xs ys zs : Array Value} {a b c : Value} {Q : Fin → Shared → Prop} (hh : A.handled = none) (D : l1 < I ∧ l2 < I ∧ l3 < I)
    (hz : ZipS s.heap (I + 5) (I + 3) (I + 4) .none) (hTI : IsTrip s.heap (I + 3) (.ref I) (.ref (I + 1)) (.ref (I + 2))) (hTO : IsTrip s.heap (I + 4) a b c)
    (h1 : s.heap.IsListIter I l1 k) (h2 : s.heap.IsListIter (I + 1) l2 k) (h3 : s.heap.IsListIter (I + 2) l3 k) (hl1 : s.heap.IsList l1 xs) (hl2 : s.heap.IsList l2 ys) (hl3 : s.heap.IsList l3 zs) (hx : xs[k]? = none) (hy : ys[k]? = none) (hu : zs[k]? = none)
    (hE : ∀ h' e, (∀ (c : Nat) o, c ≠ I + 5 → c ≠ I + 4 → c ≠ I → c ≠ I + 1 → c ≠ I + 2 → s.heap.get? c = some o → h'.get? c = some o) → (∃ o, h'.get? e = some o ∧ o.cls = .type "StopIteration") → E (.ref e) { s with heap := h' }) :
    wpAny (model prog w) A (Builtin.«zip.__next__» ⟨[.ref (I + 5)], []⟩) Q E s := by
  obtain ⟨D1, D2, D3⟩ := D
  show wpAny _ _ (field (.ref (I + 5)) 2 >>= _) _ _ _
  refine wpAny_bind (wpAny_field hz rfl (x := .bool true) rfl ?_)
  show wpAny _ _ (field (.ref (I + 5)) 3 >>= _) _ _ _
  refine wpAny_bind (wpAny_field hz rfl (x := .ref (I + 3)) rfl (wpAny_bind (wpAny_seqItems hTI rfl ?_)))
  show wpAny _ _ (Builtin.SmallTypes.ownedTupleIsFree (.ref (I + 5)) >>= _) _ _ _
  refine wpAny_bind ?_
  unfold Builtin.SmallTypes.ownedTupleIsFree
  refine wpAny_bind (wpAny_field hz rfl (x := .none) rfl (wpAny_pure ?_))
  simp only [if_true]
  refine wpAny_bind (wpAny_rule (wpAny_bind (wpAny_field hz rfl (x := .ref (I + 4)) rfl (wpAny_bind (wpAny_setField_rec hz (by simp) fun g1 z1 s1 => wpAny_bind ?_)))))
  replace z1 : ZipS g1 (I + 5) (I + 3) (I + 4) .ellipsis := z1
  simp only [List.zipIdx_cons, List.zipIdx_nil, List.forIn_cons, List.forIn_nil]
  refine wpAny_bind (wpAny_bind (wpAny_onRaise ?_))
  show wpAny _ _ (Builtin.SmallTypes.nextOrEnd (.ref I)) _ _ _
  refine nOE_end hh (h1.extBut s1.extBut (by show @Ne Nat _ _; omega)) (hl1.extBut s1.extBut (by show @Ne Nat _ _; omega)) hx fun g2 s2 => ?_
  have z2 : ZipS g2 (I + 5) (I + 3) (I + 4) .ellipsis := s2 _ _ (by show @Ne Nat _ _; omega) z1
  refine wpAny_bind (wpAny_setField_rec z2 (by simp) fun g3 z3 s3 => ?_)
  replace z3 : ZipS g3 (I + 5) (I + 3) (I + 4) .none := z3
  refine wpAny_bind ?_
  refine wpAny_bind ?_
  simp only [List.drop_succ_cons, List.drop_zero, List.zipIdx_cons, List.zipIdx_nil, List.forIn_cons, List.forIn_nil]
  refine wpAny_bind (wpAny_bind ?_)
  refine nOE_end hh (((h2.extBut s1.extBut (by show @Ne Nat _ _; omega)).extBut s2 (by show @Ne Nat _ _; omega)).extBut s3.extBut (by show @Ne Nat _ _; omega)) (((hl2.extBut s1.extBut (by show @Ne Nat _ _; omega)).extBut s2 (by show @Ne Nat _ _; omega)).extBut s3.extBut (by show @Ne Nat _ _; omega)) hy fun g4 s4 => ?_
  simp only [Option.isSome_none, Bool.false_eq_true, if_false]
  refine wpAny_pure ?_
  refine wpAny_bind (wpAny_bind ?_)
  refine nOE_end hh ((((h3.extBut s1.extBut (by show @Ne Nat _ _; omega)).extBut s2 (by show @Ne Nat _ _; omega)).extBut s3.extBut (by show @Ne Nat _ _; omega)).extBut s4 (by show @Ne Nat _ _; omega)) ((((hl3.extBut s1.extBut (by show @Ne Nat _ _; omega)).extBut s2 (by show @Ne Nat _ _; omega)).extBut s3.extBut (by show @Ne Nat _ _; omega)).extBut s4 (by show @Ne Nat _ _; omega)) hu fun g5 s5 => ?_
  simp only [Option.isSome_none, Bool.false_eq_true, if_false]
  refine wpAny_pure (wpAny_pure ?_)
  refine wpAny_bind (wpAny_rule ?_)
  unfold Builtin.SmallTypes.stopIteration
  show wpAny _ _ (newExc (.type "StopIteration") [] >>= _) _ _ _
  refine wpAny_bind ?_
  simp only [newExc, newTuple]
  refine wpAny_bind (wpAny_newObj_type ?_ (by size_fits))
  refine wpAny_bind (m := firstArgMember _ _) (wpAny_of_eq (a := Value.none) (by first | rfl | (simp only [firstArgMember]; rfl)) ?_)
  refine wpAny_newObj_type ?_ (by size_fits)
  simp only [raiseNew]
  refine wpAny_bind (wpAny_handled ?_)
  rw [hh]
  refine wpAny_throw ?_
  exact hE _ _ (fun c o n1 _ n3 n4 n5 q => Heap.get?_push_of_some _ (Heap.get?_push_of_some _ (s5 _ _ n5 (s4 _ _ n4 (s3.extBut _ _ n1 (s2 _ _ n3 (s1.extBut _ _ n1 q))))))) ⟨_, Heap.get?_push_size _ rfl, rfl⟩
theorem z3_next_item {I l1 l2 l3 k : Nat} {xs ys zs : Array Value} {x y u a b c : Value} {Q : Option Value → Shared → Prop} (D : l1 < I ∧ l2 < I ∧ l3 < I)
    (hz : ZipS s.heap (I + 5) (I + 3) (I + 4) .none) (hTI : IsTrip s.heap (I + 3) (.ref I) (.ref (I + 1)) (.ref (I + 2))) (hTO : IsTrip s.heap (I + 4) a b c)
    (h1 : s.heap.IsListIter I l1 k) (h2 : s.heap.IsListIter (I + 1) l2 k) (h3 : s.heap.IsListIter (I + 2) l3 k) (hl1 : s.heap.IsList l1 xs) (hl2 : s.heap.IsList l2 ys) (hl3 : s.heap.IsList l3 zs) (hx : xs[k]? = some x) (hy : ys[k]? = some y) (hu : zs[k]? = some u)
    (hQ : ∀ h', ZipS h' (I + 5) (I + 3) (I + 4) (rawInt s.heap.objs.size) → IsTrip h' (I + 4) x y u → h'.IsListIter I l1 (k + 1) → h'.IsListIter (I + 1) l2 (k + 1) → h'.IsListIter (I + 2) l3 (k + 1) → IsTrip h' s.heap.objs.size x y u → h'.objs.size = s.heap.objs.size + 1 →
      (∀ (e : Nat) o, e ≠ I + 5 → e ≠ I + 4 → e ≠ I → e ≠ I + 1 → e ≠ I + 2 → s.heap.get? e = some o → h'.get? e = some o) → Q (some (.ref s.heap.objs.size)) { s with heap := h' }) :
    wpAny (model prog w) A (pyNext (.ref (I + 5))) Q E s := by
  have hT : s.TypeIs (.ref (I + 5)) "zip" := ⟨_, hz, rfl⟩
  unfold pyNext
  exact wpAny_bind (wpAny_attempt (wpAny_callSpecial?_slot (name := Str.ofString "__next__") hT F.slot_zip_next
    (wpAny_call_entry F.slot_zip_next hT F.entry_zip_next (z3_item D hz hTI hTO h1 h2 h3 hl1 hl2 hl3 hx hy hu fun h' a1 a2 a3 a4 a5 a6 a7 a8 => wpAny_pure (hQ h' a1 a2 a3 a4 a5 a6 a7 a8)) (F.args_zip_next_1 _))))
theorem z3_next_end {I l1 l2 l3 k : Nat} {xs ys zs : Array Value} {a b c : Value} {Q : Option Value → Shared → Prop} (hh : A.handled = none) (D : l1 < I ∧ l2 < I ∧ l3 < I)
    (hz : ZipS s.heap (I + 5) (I + 3) (I + 4) .none) (hTI : IsTrip s.heap (I + 3) (.ref I) (.ref (I + 1)) (.ref (I + 2))) (hTO : IsTrip s.heap (I + 4) a b c)
    (h1 : s.heap.IsListIter I l1 k) (h2 : s.heap.IsListIter (I + 1) l2 k) (h3 : s.heap.IsListIter (I + 2) l3 k) (hl1 : s.heap.IsList l1 xs) (hl2 : s.heap.IsList l2 ys) (hl3 : s.heap.IsList l3 zs) (hx : xs[k]? = none) (hy : ys[k]? = none) (hu : zs[k]? = none)
    (hQ : ∀ h', (∀ (c : Nat) o, c ≠ I + 5 → c ≠ I + 4 → c ≠ I → c ≠ I + 1 → c ≠ I + 2 → s.heap.get? c = some o → h'.get? c = some o) → Q none { s with heap := h' }) : wpAny (model prog w) A (pyNext (.ref (I + 5))) Q E s := by
  have hT : s.TypeIs (.ref (I + 5)) "zip" := ⟨_, hz, rfl⟩
  unfold pyNext
  refine wpAny_bind (wpAny_attempt (wpAny_callSpecial?_slot (name := Str.ofString "__next__") hT F.slot_zip_next
    (wpAny_call_entry F.slot_zip_next hT F.entry_zip_next (z3_end hh D hz hTI hTO h1 h2 h3 hl1 hl2 hl3 hx hy hu fun h' e hk he => ?_) (F.args_zip_next_1 _))))
  obtain ⟨o, ho, hc⟩ := he
  exact wpAny_bind (wpAny_isInstance (T := "StopIteration") (b := true) ⟨o, ho, hc⟩ isSubtype_stop (wpAny_pure (hQ _ hk)))
end
abbrev z3H1 (h : Heap) (l1 : Addr) : Heap := h.push { cls := .type "list_iterator", data := .fields #[.ref l1, .int 0 0] }
abbrev z3H2 (h : Heap) (l1 l2 : Addr) : Heap := (z3H1 h l1).push { cls := .type "list_iterator", data := .fields #[.ref l2, .int 0 0] }
abbrev z3H3 (h : Heap) (l1 l2 l3 : Addr) : Heap := (z3H2 h l1 l2).push { cls := .type "list_iterator", data := .fields #[.ref l3, .int 0 0] }
abbrev z3H4 (h : Heap) (l1 l2 l3 : Addr) : Heap := (z3H3 h l1 l2 l3).push { cls := .type "tuple", data := .seq #[.ref h.objs.size, .ref (z3H1 h l1).objs.size, .ref (z3H2 h l1 l2).objs.size] }
abbrev z3H5 (h : Heap) (l1 l2 l3 : Addr) : Heap := (z3H4 h l1 l2 l3).push { cls := .type "tuple", data := .seq #[.none, .none, .none] }
abbrev z3H6 (h : Heap) (l1 l2 l3 : Addr) : Heap := (z3H5 h l1 l2 l3).push { cls := .type "zip", data := .fields #[.none, .bool false, .bool true, .ref (z3H3 h l1 l2 l3).objs.size, .ref (z3H4 h l1 l2 l3).objs.size] }
theorem meets_zip3 (l1 l2 l3 : Addr) (xs ys zs : Array Value) :
    Meets (Builtin.«zip.__new__» ⟨[.type "zip", .ref l1, .ref l2, .ref l3], [(Str.ofString "strict", .bool true)]⟩) (fun _ R s => s.heap.IsList l1 xs ∧ s.heap.IsList l2 ys ∧ s.heap.IsList l3 zs ∧
      R (.ok (.ret (.ref (z3H5 s.heap l1 l2 l3).objs.size))) { s with heap := z3H6 s.heap l1 l2 l3 }) :=
  .of_wp fun prog w A R s h => by
    obtain ⟨hp, g, d, tk, os⟩ := s; obtain ⟨hl1, hl2, hl3, h⟩ := h
    have hsub := sub_zip
    have e1 : (Str.ofString "strict" != ("strict" : Str)) = false := by decide +kernel
    have hL1 : Heap.IsList (Shared.heap ⟨hp, g, d, tk, os⟩) l1 xs := hl1
    have hL2 : Heap.IsList (Shared.heap ⟨hp.push { cls := .type "list_iterator", data := .fields #[.ref l1, .int 0 0] }, g, d, tk, os⟩) l2 ys := Heap.IsList.push hl2 _
    have hL3 : Heap.IsList (Shared.heap ⟨(hp.push { cls := .type "list_iterator", data := .fields #[.ref l1, .int 0 0] }).push { cls := .type "list_iterator", data := .fields #[.ref l2, .int 0 0] }, g, d, tk, os⟩) l3 zs := Heap.IsList.push (Heap.IsList.push hl3 _) _
    wp_walk using wpAny_pyIter_list hL1, wpAny_pyIter_list hL2, wpAny_pyIter_list hL3
    exact ⟨_, rfl, h⟩
section
variable {prog : Program} {w : World} {A : Around} {E : Value → Shared → Prop} {s : Shared}
/-- the call: three iterators, two tuples, the zip -/
theorem call_zip3 {l1 l2 l3 : Addr} {xs ys zs : Array Value} {Q : Value → Shared → Prop} (hl1 : s.heap.IsList l1 xs) (hl2 : s.heap.IsList l2 ys) (hl3 : s.heap.IsList l3 zs)
    (h : ∀ h', ZipS h' (s.heap.objs.size + 5) (s.heap.objs.size + 3) (s.heap.objs.size + 4) .none → IsTrip h' (s.heap.objs.size + 3) (.ref s.heap.objs.size) (.ref (s.heap.objs.size + 1)) (.ref (s.heap.objs.size + 2)) →
      IsTrip h' (s.heap.objs.size + 4) .none .none .none → h'.IsListIter s.heap.objs.size l1 0 → h'.IsListIter (s.heap.objs.size + 1) l2 0 → h'.IsListIter (s.heap.objs.size + 2) l3 0 → (∀ c o, s.heap.get? c = some o → h'.get? c = some o) → Q (.ref (s.heap.objs.size + 5)) { s with heap := h' }) :
    wpAny (model prog w) A (call (.type "zip") [.ref l1, .ref l2, .ref l3] [(Str.ofString "strict", .bool true)]) Q E s := by
  refine callType_newKw F.called_zip (by decide) (F_tcz3 _ _ _) (F_ncz3 _ _ _) (fun obj => F_aoz3 obj _ _ _) F.entry_zip_new (meets_zip3 l1 l2 l3 xs ys zs) ⟨hl1, hl2, hl3, ?_⟩
  have n1 : (z3H1 s.heap l1).objs.size = s.heap.objs.size + 1 := Heap.size_push ..
  have n2 : (z3H2 s.heap l1 l2).objs.size = s.heap.objs.size + 2 := by rw [Heap.size_push, n1]
  have n3 : (z3H3 s.heap l1 l2 l3).objs.size = s.heap.objs.size + 3 := by rw [Heap.size_push, n2]
  have n4 : (z3H4 s.heap l1 l2 l3).objs.size = s.heap.objs.size + 4 := by rw [Heap.size_push, n3]
  have n5 : (z3H5 s.heap l1 l2 l3).objs.size = s.heap.objs.size + 5 := by rw [Heap.size_push, n4]
  have g6 : (z3H6 s.heap l1 l2 l3).get? (z3H5 s.heap l1 l2 l3).objs.size = some _ := Heap.get?_push_size _ rfl
  have g5 : (z3H6 s.heap l1 l2 l3).get? (z3H4 s.heap l1 l2 l3).objs.size = some _ := Heap.get?_push_of_some _ (Heap.get?_push_size _ rfl)
  have g4 : (z3H6 s.heap l1 l2 l3).get? (z3H3 s.heap l1 l2 l3).objs.size = some _ := Heap.get?_push_of_some _ (Heap.get?_push_of_some _ (Heap.get?_push_size _ rfl))
  have g3 : (z3H6 s.heap l1 l2 l3).get? (z3H2 s.heap l1 l2).objs.size = some _ := Heap.get?_push_of_some _ (Heap.get?_push_of_some _ (Heap.get?_push_of_some _ (Heap.get?_push_size _ rfl)))
  have g2 : (z3H6 s.heap l1 l2 l3).get? (z3H1 s.heap l1).objs.size = some _ := Heap.get?_push_of_some _ (Heap.get?_push_of_some _ (Heap.get?_push_of_some _ (Heap.get?_push_of_some _ (Heap.get?_push_size _ rfl))))
  have g1 : (z3H6 s.heap l1 l2 l3).get? s.heap.objs.size = some _ := Heap.get?_push_of_some _ (Heap.get?_push_of_some _ (Heap.get?_push_of_some _ (Heap.get?_push_of_some _ (Heap.get?_push_of_some _ (Heap.get?_push_size _ rfl)))))
  have old : ∀ c o, s.heap.get? c = some o → (z3H6 s.heap l1 l2 l3).get? c = some o := fun c o q => Heap.get?_push_of_some _ (Heap.get?_push_of_some _ (Heap.get?_push_of_some _ (Heap.get?_push_of_some _ (Heap.get?_push_of_some _ (Heap.get?_push_of_some _ q)))))
  show _ ∧ _
  rw [n3, n4, n5] at g6
  rw [n1, n2, n3] at g4
  rw [n4] at g5
  rw [n2] at g3
  rw [n1] at g2
  rw [n5]
  exact ⟨⟨_, g6, rfl⟩, h _ g6 g4 g5 ⟨_, g1, rfl, rfl⟩ ⟨_, g2, rfl, rfl⟩ ⟨_, g3, rfl, rfl⟩ old⟩
end
/-- the lists at a, b and c, of one length, item by item in new triples -/
def ItzT (K : PySem.W.Frag) (a b c : Addr) : It :=
  ⟨fun i H => ∃ (xs ys zs : List V) (x y z : V), SqL K H a xs ∧ SqL K H b ys ∧ SqL K H c zs ∧ xs[i]? = some x ∧ ys[i]? = some y ∧ zs[i]? = some z,
    fun i H v H' => ∃ T x y z, v = .ref T ∧ H T = none ∧ H' = upd H T (.tup [x, y, z]) ∧ (∀ xs, SqL K H a xs → xs[i]? = some x) ∧ (∀ ys, SqL K H b ys → ys[i]? = some y) ∧ ∀ zs, SqL K H c zs → zs[i]? = some z,
    fun i H => ∃ xs ys zs : List V, SqL K H a xs ∧ SqL K H b ys ∧ SqL K H c zs ∧ xs.length ≤ i ∧ ys.length ≤ i ∧ zs.length ≤ i⟩
theorem turn_zip3 {P : Program} {w : World} {K : PySem.W.Frag} {elts : List Expr} {kk : Nat} {tpos : Pos} {a b c I : Nat} (D : a < I ∧ b < I ∧ c < I) :
    Turn P w K (.Tuple elts kk tpos) (ItzT K a b c) [I + 5, I + 3, I + 4, I, I + 1, I + 2] (I + 5) (fun i h => ZipS h (I + 5) (I + 3) (I + 4) .none ∧ IsTrip h (I + 3) (.ref I) (.ref (I + 1)) (.ref (I + 2)) ∧ (∃ x y z, IsTrip h (I + 4) x y z) ∧ h.IsListIter I a i ∧ h.IsListIter (I + 1) b i ∧ h.IsListIter (I + 2) c i) where
  mem := by simp
  obj := fun i h st e hc => by
    obtain ⟨hz, hTI, ⟨x, y, z, hTO⟩, ⟨o1, e1, _, d1⟩, ⟨o2, e2, _, d2⟩, ⟨o3, e3, _, d3⟩⟩ := st
    simp only [List.mem_cons, List.not_mem_nil, or_false] at hc
    rcases hc with q | q | q | q | q | q <;> rw [q]
    · exact ⟨_, hz, fun v q => nomatch q⟩
    · exact ⟨_, hTI, fun v q => nomatch q⟩
    · exact ⟨_, hTO, fun v q => nomatch q⟩
    · exact ⟨o1, e1, fun v q => by rw [d1] at q; cases q⟩
    · exact ⟨o2, e2, fun v q => by rw [d2] at q; cases q⟩
    · exact ⟨o3, e3, fun v q => by rw [d3] at q; cases q⟩
  keep := fun i h h' st k => by
    obtain ⟨hz, hTI, ⟨x, y, z, hTO⟩, h1, h2, h3⟩ := st
    exact ⟨k (I + 5) (by simp) _ hz, k (I + 3) (by simp) _ hTI, ⟨x, y, z, k (I + 4) (by simp) _ hTO⟩, h1.at fun o q => k I (by simp) o q, h2.at fun o q => k (I + 1) (by simp) o q, h3.at fun o q => k (I + 2) (by simp) o q⟩
  item := by
    intro X hP hw hK hc i pins s σ H E J hf st hg
    subst hP hw hK
    obtain ⟨hz, hTI, ⟨x0, y0, z0, hTO⟩, h1, h2, h3⟩ := st
    obtain ⟨xs, ys, zs, x, y, z, hqx, hqy, hqz, hx, hy, hzz⟩ := hg
    obtain ⟨its, rv, p, _⟩ := J.list hqx
    obtain ⟨its2, rv2, p2, _⟩ := J.list hqy
    obtain ⟨its3, rv3, p3, _⟩ := J.list hqz
    obtain ⟨u, hu, ru⟩ := rv.get hx
    obtain ⟨u2, hu2, ru2⟩ := rv2.get hy
    obtain ⟨u3, hu3, ru3⟩ := rv3.get hzz
    have hzl : I + 5 < s.heap.objs.size := Heap.lt_size hz
    refine z3_next_item D hz hTI hTO h1 h2 h3 p.isList p2.isList p3.isList (x := u) (y := u2) (u := u3) (by simpa using hu) (by simpa using hu2) (by simpa using hu3) fun h' z' TO' h1' h2' h3' hT hsz hk => ?_
    refine ⟨_, rfl, zs_go (s := { s with heap := h' }) z' fun h'' z'' sb => ?_⟩
    have hT2 : h''.get? s.heap.objs.size = some { cls := .type "tuple", data := .seq #[u, u2, u3] } := (sb.2 _ (Nat.ne_of_gt hzl)).trans hT
    have new : ObjOk X.prog X.w (upd H s.heap.objs.size (.tup [x, y, z])) h'' s.heap.objs.size (.tup [x, y, z]) :=
      ⟨by show 3 ≤ sizeLine; decide, [u, u2, u3], .cons ru (.cons ru2 (.cons ru3 .nil)), ⟨_, hT2, rfl, _, rfl⟩⟩
    have I1 : Inv X pins σ (upd H s.heap.objs.size (.tup [x, y, z])) { s with heap := h'' } :=
      J.turnedNew (t' := s.toks) (ch := [I + 5, I + 3, I + 4, I, I + 1, I + 2]) (fun c o hb q => (sb.2 c (fun q' => hb (by simp [q']))).trans (hk c o (fun q' => hb (by simp [q'])) (fun q' => hb (by simp [q'])) (fun q' => hb (by simp [q'])) (fun q' => hb (by simp [q'])) (fun q' => hb (by simp [q'])) q)) hf (Nat.le_refl _) new
    refine ⟨.ref s.heap.objs.size, _, I1, rfl, ⟨_, x, y, z, rfl, J.hok.fresh (Nat.le_refl _), rfl, fun l hl => by rw [J.list_inj hl hqx]; exact hx, fun l hl => by rw [J.list_inj hl hqy]; exact hy, fun l hl => by rw [J.list_inj hl hqz]; exact hzz⟩, ⟨z'', ?_, ⟨u, u2, u3, ?_⟩, ?_, ?_, ?_⟩, fun c hcm => ?_⟩
    · exact (sb.2 _ (by show @Ne Nat _ _; omega)).trans (hk _ _ (by show @Ne Nat _ _; omega) (by show @Ne Nat _ _; omega) (by show @Ne Nat _ _; omega) (by show @Ne Nat _ _; omega) (by show @Ne Nat _ _; omega) hTI)
    · exact (sb.2 _ (by show @Ne Nat _ _; omega)).trans TO'
    · exact h1'.at fun o q => (sb.2 _ (by show @Ne Nat _ _; omega)).trans q
    · exact h2'.at fun o q => (sb.2 _ (by show @Ne Nat _ _; omega)).trans q
    · exact h3'.at fun o q => (sb.2 _ (by show @Ne Nat _ _; omega)).trans q
    · have hlt : c < s.heap.objs.size := by
        simp only [List.mem_cons, List.not_mem_nil, or_false] at hcm
        rcases hcm with q | q | q | q | q | q <;> rw [q]
        · exact hzl
        · exact Heap.lt_size hTI
        · exact Heap.lt_size hTO
        · obtain ⟨_, e1, _⟩ := h1; exact Heap.lt_size e1
        · obtain ⟨_, e2, _⟩ := h2; exact Heap.lt_size e2
        · obtain ⟨_, e3, _⟩ := h3; exact Heap.lt_size e3
      rw [upd_ne (Nat.ne_of_lt hlt)]
      exact (hf c hcm).1
  done := by
    intro X hP hw hK hc i pins s σ H E J hf st hg
    subst hP hw hK
    obtain ⟨hz, hTI, ⟨x0, y0, z0, hTO⟩, h1, h2, h3⟩ := st
    obtain ⟨xs, ys, zs, hqx, hqy, hqz, l1, l2, l3⟩ := hg
    obtain ⟨its, rv, p, _⟩ := J.list hqx
    obtain ⟨its2, rv2, p2, _⟩ := J.list hqy
    obtain ⟨its3, rv3, p3, _⟩ := J.list hqz
    have m1 := rv.length
    have m2 := rv2.length
    have m3 := rv3.length
    exact z3_next_end (J.ok.hd hc) D hz hTI hTO h1 h2 h3 p.isList p2.isList p3.isList (by simp; omega) (by simp; omega) (by simp; omega) fun h' hk => ⟨rfl, J.turnedL (t' := s.toks) (ch := [I + 5, I + 3, I + 4, I, I + 1, I + 2]) (fun c o hb q =>
      hk c o (fun q' => hb (by simp [q'])) (fun q' => hb (by simp [q'])) (fun q' => hb (by simp [q'])) (fun q' => hb (by simp [q'])) (fun q' => hb (by simp [q'])) q) hf⟩
  self := fun A i s Q E st h => zs_iter st.1 h
def iZip3 (K : PySem.W.Frag) (ta : TA) : TI := fun σ H R => ta σ H fun vs H1 => ∃ a b c xs ys zs, vs = [.ref a, .ref b, .ref c] ∧ SqL K H1 a xs ∧ SqL K H1 b ys ∧ SqL K H1 c zs ∧ R (ItzT K a b c) H1
theorem pi_zip3 {X : Cx} {e e2 e3 : Expr} {ta : TA} {p pos tpos cp kp : Pos} {elts : List Expr} {kk j : Nat} (hg : Gl X "zip") (hm : X.mg "zip" = none) (ha : PA X [e, e2, e3] ta)
    (he : backTo pos (starEach [e, e2, e3] X.env) = (false, eval e X.env) :: backTo pos (starEach [e2, e3] X.env) := by rfl) (hpl : (backTo pos (starEach [e, e2, e3] X.env)).any (·.1) = false := by rfl) :
    PI X (.Tuple elts kk tpos) (.Call (.Name "zip" p) [e, e2, e3] [⟨some "strict", .Constant (.bool true) j cp, kp⟩] pos) (iZip3 X.K ta) := by
  refine ⟨fun pins s σ H R I h => ?_⟩
  refine wpAny_Call_Name_kw (ld_blt I hg hm PyProof.Rows.boot_zip (callWith_tk hpl rfl ?_))
  rw [he]
  refine evalArgs_kwB rfl ?_
  rw [← he]
  refine thn (ha.run pos pins s σ H _ I h) fun us s1 ⟨vs, H1, I1, r1, q1⟩ => ?_
  refine kws_cons (Constant_bool (kws_nil ?_))
  obtain ⟨a, b, c, xs, ys, zs, ex, hqx, hqy, hqz, q⟩ := q1
  subst ex
  cases r1 with
  | cons r rr =>
    cases rr with
    | cons r' rr =>
      cases rr with
      | cons r'' rr =>
        cases rr
        cases r
        cases r'
        cases r''
        obtain ⟨its, rv, p1, _⟩ := I1.list hqx
        obtain ⟨its2, rv2, p2, _⟩ := I1.list hqy
        obtain ⟨its3, rv3, p3, _⟩ := I1.list hqz
        have la : a < s1.heap.objs.size := p1.lt
        have lb : b < s1.heap.objs.size := p2.lt
        have lc : c < s1.heap.objs.size := p3.lt
        refine call_zip3 p1.isList p2.isList p3.isList fun h' hz hTI hTO h1 h2 h3 hk => zs_iter hz ?_
        have I2 : Inv X pins σ H1 { s1 with heap := h' } := I1.kept (t' := s1.toks) hk
        refine ⟨s1.heap.objs.size + 5, [s1.heap.objs.size + 5, s1.heap.objs.size + 3, s1.heap.objs.size + 4, s1.heap.objs.size, s1.heap.objs.size + 1, s1.heap.objs.size + 2], _, _, H1, rfl, I2, turn_zip3 (I := s1.heap.objs.size) ⟨la, lb, lc⟩, ⟨hz, hTI, ⟨_, _, _, hTO⟩, h1, h2, h3⟩, fun c hcm => ?_, q⟩
        have hle : s1.heap.objs.size ≤ c := by
          simp only [List.mem_cons, List.not_mem_nil, or_false] at hcm
          rcases hcm with z | z | z | z | z | z <;> rw [z] <;> omega
        exact I1.fpOk hle (I1.hok.fresh hle)
section
variable {X : Cx} {F : Fr} {s : S} {a b c : Expr} {p pos tpos cp kp : Pos} {elts : List Expr} {kk j : Nat} {Θ : Nat → (Nat → E → Prop) → S → Prop}
/-- three whole frozen lists of one length, in triples -/
def itT (ds es fs : List D) : Nat → E → Prop := fun i e => ∃ d d2 d3, ds[i]? = some d ∧ es[i]? = some d2 ∧ fs[i]? = some d3 ∧ e = .d (.nd .tup [d, d2, d3])
theorem ji_zip3 (g : GlB X "zip") (h : JE X F a s fun e1 s1 => JE X F b s1 fun e2 s2 => JE X F c s2 fun e3 s3 => ∃ ds es fs, e1 = .d (.nd .lst ds) ∧ e2 = .d (.nd .lst es) ∧ e3 = .d (.nd .lst fs) ∧ ds.length = es.length ∧ ds.length = fs.length ∧ Θ ds.length (itT ds es fs) s3)
    (ns : NoStar a := by intro _ _; rfl) (ns2 : NoStar b := by intro _ _; rfl) (ns3 : NoStar c := by intro _ _; rfl) : JI X F (.Tuple elts kk tpos) (.Call (.Name "zip" p) [a, b, c] [⟨some "strict", .Constant (.bool true) j cp, kp⟩] pos) s Θ := fun as G H σ R c k => by
  refine PI.sem (pi_zip3 g.gl g.mg (pa_cons (pe_sem X a) (pa_cons (pe_sem X b) (pa_cons (pe_sem X _) pa_nil (ns3 _ _)) (ns2 _ _)) (ns _ _)) (by rw [ns, ns2, ns3]; rfl) (by rw [ns, ns2, ns3]; rfl)) ?_
  refine h as G H σ _ c fun v1 as1 G1 H1 e1 s1 c1 x1 ve1 h1 => h1 as1 G1 H1 σ _ c1 fun v2 as2 G2 H2 e2 s2 c2 x2 ve2 h2 => h2 as2 G2 H2 σ _ c2 fun v3 as3 G3 H3 e3 s3 c3 x3 ve3 ⟨ds, es, fs, q1, q2, q3, hl, hl3, q⟩ => ?_
  subst q1 q2 q3
  cases ve1 with
  | @nd l1 vs _ _ n r =>
    cases ve2 with
    | @nd l2 ws _ _ n2 r2 =>
      cases ve3 with
      | @nd l3 us _ _ n3 r3 =>
        have m1 : SqL X.K G3 l1 vs := (show NodeAt X.K G1 l1 vs .lst from n).mono (x2.sub.trans x3.sub)
        have m2 : SqL X.K G3 l2 ws := (show NodeAt X.K G2 l2 ws .lst from n2).mono x3.sub
        have m3 : SqL X.K G3 l3 us := n3
        have r1' : Reps X.K G3 vs ds := r.mono (x2.sub.trans x3.sub)
        have r2' : Reps X.K G3 ws es := r2.mono x3.sub
        have at1 : ∀ {as' : List Addr} {G' H' : Hp} {σ' : L2.St} {s' : S}, Cz X F as' G' H' σ' s' → Same G3 G' → SqL X.K H' l1 vs := fun c' x => ((show NodeAt X.K G3 l1 vs .lst from m1).mono x).mono c'.sub
        have at2 : ∀ {as' : List Addr} {G' H' : Hp} {σ' : L2.St} {s' : S}, Cz X F as' G' H' σ' s' → Same G3 G' → SqL X.K H' l2 ws := fun c' x => ((show NodeAt X.K G3 l2 ws .lst from m2).mono x).mono c'.sub
        have at3 : ∀ {as' : List Addr} {G' H' : Hp} {σ' : L2.St} {s' : S}, Cz X F as' G' H' σ' s' → Same G3 G' → SqL X.K H' l3 us := fun c' x => ((show NodeAt X.K G3 l3 us .lst from m3).mono x).mono c'.sub
        have el1 : vs.length = ds.length := r1'.length
        have el2 : ws.length = es.length := r2'.length
        have el3 : us.length = fs.length := r3.length
        refine ⟨l1, l2, l3, vs, ws, us, rfl, (show NodeAt X.K G3 l1 vs .lst from m1).mono c3.sub, (show NodeAt X.K G3 l2 ws .lst from m2).mono c3.sub, (show NodeAt X.K G3 l3 us .lst from m3).mono c3.sub, k (ItzT X.K l1 l2 l3) as3 G3 H3 s3 ds.length (itT ds es fs) c3 (x1.trans (x2.trans x3)) ?_ q⟩
        refine ⟨fun as' G' H' σ' s' c' x => ⟨vs, ws, us, at1 c' x, at2 c' x, at3 c' x, by omega, by omega, by omega⟩, fun i as' G' H' σ' s' hi c' x => ⟨vs, ws, us, vs[i]'(by omega), ws[i]'(by omega), us[i]'(by omega), at1 c' x, at2 c' x, at3 c' x, List.getElem?_eq_getElem _, List.getElem?_eq_getElem _, List.getElem?_eq_getElem _⟩,
          fun i as' G' H' σ' s' y H3 hi c' x q => ?_, fun i as' G' H' σ' s' y H3 hi c' x q => ?_⟩
        · obtain ⟨T, u, u2, u3, rfl, hT, rfl, g1, g2, g3⟩ := q
          obtain ⟨d, e1, e2⟩ := r1'.get' (g1 vs (at1 c' x))
          obtain ⟨d2, e3, e4⟩ := r2'.get' (g2 ws (at2 c' x))
          obtain ⟨d3, e5, e6⟩ := r3.get' (g3 us (at3 c' x))
          have sg : Same G' (upd G' T (.tup [u, u2, u3])) := same_new (c'.gnone hT)
          refine ⟨upd G' T (.tup [u, u2, u3]), .d (.nd .tup [d, d2, d3]), c'.addG hT, ⟨sg, fun b0 hb hg => ?_⟩, ?_, d, d2, d3, e1, e3, e5, rfl⟩
          · rw [upd_ne (fun z => hb (by rw [z]; exact hT))]; exact hg
          · exact .nd (k := .tup) (SqT.of upd_same) (.cons ((e2.mono x).mono sg) (.cons ((e4.mono x).mono sg) (.cons ((e6.mono x).mono sg) .nil)))
        · obtain ⟨T, u, u2, u3, rfl, hT, rfl, g1, g2, g3⟩ := q
          exact same_new hT
end
end DL
namespace DL
open PySem PySem.Spec PyProof.Rows L2
section
variable {X : Cx} {F : Fr} {P : Po} {G H : Hp} {σ : L2.St}
/-- the last cell but one dies: the last one takes its place -/
structure Mv (n : Nat) (p q : S) (cs : List Cell) (kd : Kd) (ds : List D) : Prop where
  ce : ∃ c0, p.ce = cs ++ [c0, .nd kd (ds.map .d)]
  cq : q.ce = cs ++ [.nd kd (ds.map .d)]
  hn : cs.length = n
  len : q.sl.length = p.sl.length
  ar : q.ar = p.ar
  fit : p.ar ≤ n
  old : cs.all (Cell.ltB n) = true
  sl : ∀ (i : Nat) (e : E), q.sl[i]? = some (some e) → (e.lt n = true ∧ p.sl[i]? = some (some e)) ∨ (e = .r n ∧ p.sl[i]? = some (some (.r (n + 1))))
theorem Cz.mv {as : List Addr} {s s' : S} {n : Nat} {cs : List Cell} {kd : Kd} {ds : List D} (c : Cz X F as G H σ s) (w : Mv n s s' cs kd ds) : ∃ as', Cz X F as' G H σ s' := by
  obtain ⟨c0, hce⟩ := w.ce
  have hn := w.hn
  have hl : as.length = n + 2 := by rw [c.len, hce, List.length_append, hn]; rfl
  obtain ⟨l, x, y, rfl⟩ : ∃ l x y, as = l ++ [x, y] := by
    refine ⟨as.take n, as[n]'(by omega), as[n + 1]'(by omega), ?_⟩
    apply List.ext_getElem?
    intro i
    by_cases h : i < n
    · rw [List.getElem?_append_left (by rw [List.length_take]; omega), List.getElem?_take_of_lt h]
    · rw [List.getElem?_append_right (by rw [List.length_take]; omega), List.length_take, Nat.min_eq_left (by omega)]
      by_cases h2 : i = n
      · subst h2; rw [Nat.sub_self, List.getElem?_eq_getElem (by omega)]; rfl
      · by_cases h3 : i = n + 1
        · subst h3
          rw [show n + 1 - n = 1 by omega, List.getElem?_eq_getElem (by omega)]; rfl
        · rw [List.getElem?_eq_none (by omega), List.getElem?_eq_none (by simp; omega)]
  have ll : l.length = n := by rw [List.length_append] at hl; simp at hl; omega
  have g1 : ∀ {k : Nat} {a : Addr}, k < n → (l ++ [x, y])[k]? = some a → (l ++ [y])[k]? = some a := fun {k a} h q => by
    rw [List.getElem?_append_left (by omega)] at q ⊢; exact q
  have g2 : (l ++ [x, y])[n + 1]? = some y := by rw [List.getElem?_append_right (by omega), ll, show n + 1 - n = 1 by omega]; rfl
  have g3 : (l ++ [y])[n]? = some y := by rw [List.getElem?_append_right (by omega), ll, Nat.sub_self]; rfl
  have g4 : ∀ {k : Nat} {a : Addr}, (l ++ [y])[k]? = some a → (k < n ∧ (l ++ [x, y])[k]? = some a) ∨ (k = n ∧ a = y) := fun {k a} q => by
    by_cases h : k < n
    · refine .inl ⟨h, ?_⟩
      rw [List.getElem?_append_left (by omega)] at q ⊢; exact q
    · have := (List.getElem?_eq_some_iff.mp q).1
      rw [List.length_append] at this
      have hk : k = n := by simp at this; omega
      subst hk
      rw [g3] at q
      exact .inr ⟨rfl, (Option.some.inj q).symm⟩
  have c1 : ∀ {k : Nat} {z : Cell}, k < n → s'.ce[k]? = some z → s.ce[k]? = some z := fun {k z} h q => by
    rw [w.cq, List.getElem?_append_left (by omega)] at q
    rw [hce, List.getElem?_append_left (by omega)]; exact q
  have c2 : s.ce[n + 1]? = some (.nd kd (ds.map .d)) := by rw [hce, List.getElem?_append_right (by omega), hn, show n + 1 - n = 1 by omega]; rfl
  have c3 : s'.ce[n]? = some (.nd kd (ds.map .d)) := by rw [w.cq, List.getElem?_append_right (by omega), hn, Nat.sub_self]; rfl
  have sub : ∀ a ∈ l ++ [y], a ∈ l ++ [x, y] := fun a ha => by
    rcases List.mem_append.mp ha with h | h
    · exact List.mem_append_left _ h
    · exact List.mem_append_right _ (by simp at h; simp [h])
  have ve : ∀ {v : V} {e : E}, VE X.K G (l ++ [x, y]) v e → e.lt n = true → VE X.K G (l ++ [y]) v e := fun {v e} q h => by
    cases e with
    | d x => exact q
    | r k =>
      obtain ⟨a, q1, q2⟩ := q
      exact ⟨a, g1 (by simpa [E.lt] using h) q1, q2⟩
  have ves : ∀ {vs : List V} {es : List E}, VEs X.K G (l ++ [x, y]) vs es → (∀ e ∈ es, E.lt n e = true) → VEs X.K G (l ++ [y]) vs es := by
    intro vs es h
    induction h with
    | nil => intro _; exact .nil
    | cons h _ ih => intro l; exact .cons (ve h (l _ List.mem_cons_self)) (ih fun e he => l e (List.mem_cons_of_mem _ he))
  refine ⟨l ++ [y], c.sub, c.base, c.new, c.frame, ?_, ?_, ?_, ?_, fun a ha => c.fresh a (sub a ha), fun a ha => c.there a (sub a ha), ?_, ?_, ?_, ?_⟩
  · rw [w.cq, List.length_append, List.length_append, ll, hn]; rfl
  · obtain ⟨t, ht⟩ := c.pre
    have hA : F.A0.length ≤ n := by rw [c.har]; exact w.fit
    have : F.A0 <+: l := by
      refine List.prefix_of_prefix_length_le (l₃ := l ++ [x, y]) ⟨t, ht⟩ ⟨_, rfl⟩ (by omega)
    exact this.trans ⟨_, rfl⟩
  · exact c.nd.sublist (List.Sublist.append_left (List.sublist_cons_self x [y]) l)
  · intro k a kd' es q1 q2
    rcases g4 q1 with ⟨h, q⟩ | ⟨rfl, rfl⟩
    · exact c.own k a kd' es q (c1 h q2)
    · exact c.own _ a kd (ds.map .d) g2 c2
  · intro k kd' es q
    by_cases h : k < n
    · obtain ⟨a, vs, q1, q2, q3⟩ := c.cells k kd' es (c1 h q)
      refine ⟨a, vs, g1 h q1, q2, ves q3 fun e he => ?_⟩
      have hm : Cell.nd kd' es ∈ cs := by
        rw [w.cq, List.getElem?_append_left (by omega)] at q
        exact List.mem_of_getElem? q
      have := List.all_eq_true.mp w.old _ hm
      exact List.all_eq_true.mp this e he
    · have hk : k = n := by
        have := (List.getElem?_eq_some_iff.mp q).1
        rw [w.cq, List.length_append] at this
        simp at this; omega
      subst hk
      rw [c3] at q
      cases q
      obtain ⟨a, vs, q1, q2, q3⟩ := c.cells _ kd _ c2
      rw [g2] at q1
      cases q1
      exact ⟨y, vs, g3, q2, ves q3 fun e he => by
        obtain ⟨d, _, rfl⟩ := List.mem_map.mp he
        rfl⟩
  · intro i e he
    rcases w.sl i e he with ⟨h1, h2⟩ | ⟨rfl, h2⟩
    · obtain ⟨v, q1, q2⟩ := c.slots i e h2
      exact ⟨v, q1, ve q2 h1⟩
    · obtain ⟨v, q1, a, q2, q3⟩ := c.slots i _ h2
      rw [g2] at q2
      cases q2
      exact ⟨v, q1, y, g3, q3⟩
  · rw [w.len]; exact c.slen
  · rw [w.ar]; exact c.har
theorem jss_mv {sts : List Stmt} {s s' : S} {n : Nat} {cs : List Cell} {kd : Kd} {ds : List D} (w : Mv n s s' cs kd ds) (h : JSs X F sts s' P) : JSs X F sts s P := fun as G H σ D c k => by
  obtain ⟨as', c'⟩ := c.mv w
  exact h as' G H σ D c' (k.exs (Same.refl _))
end
end DL
namespace DL
open PySem PySem.Spec PyProof.Rows L2
variable {X : Cx} {F : Fr} {s : S}
/-! ### comprehensions that walk an owned list -/
section
variable {elt iter : Expr} {scope : Scope} {own : List (Str × Nat)} {pos p : Pos} {x : Str} {j B : Nat} {Φ : E → S → Prop}
/-- walks the owned cell k, whose items are data -/
def LcO (X : Cx) (F : Fr) (iter elt : Expr) (scope : Scope) (vs : List Nat) (j : Nat) (s : S) (Θ : List D → S → Prop) : Prop :=
  JE X F iter s fun e s1 => ∃ (k : Nat) (ds : List D), e = .r k ∧ nth s1.ce k = some (.nd .lst (ds.map .d)) ∧ ds.length ≤ 16000000 ∧ ∃ In : Nat → List D → S → Prop, In 0 [] (s1.wipe vs) ∧
    (∀ i acc t, In i acc t → t.wipe vs = t ∧ t.ce.length = s1.ce.length ∧ nth t.ce k = some (.nd .lst (ds.map .d))) ∧
    (∀ i v acc t, ds[i]? = some v → acc.length = i → In i acc t → ∀ Y, IsBlk X scope Y → JE Y F elt (t.blkI acc j (.d v)) fun y s3 => ∃ d t', y = .d d ∧ s3 = t'.blkI acc j (.d v) ∧ In (i + 1) (acc ++ [d]) t') ∧
    ∀ acc t, acc.length = ds.length → In ds.length acc t → Θ acc ⟨s1.sl, t.ce, s1.ar⟩
theorem blk_cell {t : S} {acc : List D} {v : E} {k : Nat} {c : Cell} (h : nth t.ce k = some c) : nth (t.push .lst (acc.map .d)).ce k = some c := by
  rw [nth_eq] at h ⊢
  show (t.ce ++ [_])[k]? = _
  rw [List.getElem?_append_left (List.getElem?_eq_some_iff.mp h).1]
  exact h
theorem lcO_read {Θ : List D → S → Prop} (hj : j ∈ own.map (·.2)) (h : LcO X F iter elt scope (own.map (·.2)) j s Θ) (hΘ : ∀ acc t, Θ acc t → Φ (.r t.ce.length) (t.push .lst (acc.map .d))) :
    ∀ as G H σ (Q : VK), Cz X F as G H σ s → (∀ v as' G' H' e' s', Cz X F as' G' H' σ s' → Ext as as' G G' → VE X.K G' as' v e' → Φ e' s' → Q v H') → tLc (semI X (.Name x p) iter) (gName j) (ttB X scope []) (teB X scope elt) (own.map (·.2)) σ H Q := by
  refine fun as G H σ Q c kk => PI.sem (X := X) (tg := .Name x p) (iter := iter) (pi_list (pe_sem X iter)) (h as G H σ _ c fun v as1 G1 H1 e1 s1 c1 x1 ve ⟨k, ds, e2, hk0, hn, In, h0, hI, ht, hd⟩ => ?_)
  subst e2
  obtain ⟨a, hka, rfl⟩ := ve
  have at_ : ∀ {as' : List Addr} {G' H' : Hp} {σ' : L2.St} {s' : S}, Cz X F as' G' H' σ' s' → as1 <+: as' → nth s'.ce k = some (.nd .lst (ds.map .d)) → ∃ vs, SqL X.K H' a vs ∧ Reps X.K G' vs ds := fun {as' G' H' σ' s'} c' pr hk => by
    rw [nth_eq] at hk
    obtain ⟨b, vs, y1, y2, y3⟩ := c'.cells k _ _ hk
    rw [pre_get pr hka] at y1
    cases y1
    exact ⟨vs, SqL.of y2, y3.reps⟩
  obtain ⟨vs0, q0, r0⟩ := at_ c1 (List.prefix_refl _) hk0
  refine ⟨a, rfl, ⟨vs0, q0⟩, ?_⟩
  intro D hD
  have c1' := (c1.wipe (own.map (·.2))).addO (kd := .lst) (o := .lst []) (vs := []) (es := []) hD upd_same .nil
  have hk : s1.ce.length = as1.length := c1.len.symm
  refine ⟨fun i m H' => m = ds.length - i ∧ i ≤ ds.length ∧ ∃ as' G' t acc, acc.length = i ∧ Cz X F as' G' H' (wipe σ (own.map (·.2))) (t.push .lst (acc.map .d)) ∧ as1 ++ [D] <+: as' ∧ Same G1 G' ∧ In i acc t, ⟨ds.length, by simp, Nat.zero_le _, _, _, _, [], rfl, c1', List.prefix_refl _, Same.refl _, h0⟩, ?_⟩
  rintro i m H' ⟨rfl, hi, as', G', t, acc, hal, c', pr, sg, q⟩
  obtain ⟨i1, i2, i3⟩ := hI i acc t q
  have pr1 : as1 <+: as' := pre_snoc.trans pr
  obtain ⟨vs, q1, r1⟩ := at_ c' pr1 (blk_cell (v := .d .non) i3)
  have prD : as'[s1.ce.length]? = some D := pre_get pr (by rw [hk, List.getElem?_append_right (Nat.le_refl _)]; simp)
  by_cases hlt : i < ds.length
  · refine .inr ⟨⟨vs, vs[i]'(by rw [r1.length]; exact hlt), q1, List.getElem?_eq_getElem _⟩, fun H2 => ∃ as' G' t acc, acc.length = i + 1 ∧ Cz X F as' G' H2 (wipe σ (own.map (·.2))) (t.push .lst (acc.map .d)) ∧ as1 ++ [D] <+: as' ∧ Same G1 G' ∧ In (i + 1) acc t, fun H2 ⟨as2, G2, s2, acc2, l2, c2, p2, g2, q2⟩ => ⟨ds.length - (i + 1), by omega, rfl, hlt, as2, G2, s2, acc2, l2, c2, p2, g2, q2⟩, fun v H2 y => ?_⟩
    obtain ⟨rfl, y⟩ := y
    obtain ⟨d, hd1, hd2⟩ := r1.get' (y vs q1)
    have c3 := c'.set (i := j) (show VE X.K G' as' v (.d d) from hd2)
    have ws : wipe ((wipe σ (own.map (·.2))).set j (some v)) (own.map (·.2)) = wipe σ (own.map (·.2)) := wipe_same (by rw [List.length_set, wipe_length]) fun l hl => by
      rw [List.getElem?_set_ne (fun z => hl (by rw [← z]; exact hj)), wipe_out' hl]
    refine ⟨ws, fun Y hY pins st I => jts_run (Ψ := fun b s2 => b = true ∧ s2 = (t.push .lst (acc.map .d)).set j (.d d)) (show JTs Y F [] _ _ from ⟨rfl, rfl⟩) (cz_blk hY c3) (fun b as4 G4 H4 s4 c4 x4 q4 => ?_) pins st I⟩
    obtain ⟨rfl, rfl⟩ := q4
    simp only [if_true]
    refine fun Y2 hY2 => ht i d acc t hd1 hal q Y2 hY2 as4 G4 H4 _ _ (cz_blk hY2 (cz_ublk hY c4)) fun y as5 G5 H5 y' s5 c5 x5 ve5 ⟨d5, t5, w1, w2, w3⟩ => ?_
    subst w1 w2
    obtain ⟨j1, j2, j3⟩ := hI (i + 1) _ t5 w3
    have c5 := cz_ublk hY2 c5
    rw [hY2.K] at ve5
    have p5 : as1 ++ [D] <+: as5 := (pr.trans x4.pre).trans x5.pre
    have prD5 : as5[s1.ce.length]? = some D := pre_get p5 (by rw [hk, List.getElem?_append_right (Nat.le_refl _)]; simp)
    have w1 : (t5.blkI acc j (.d d)).ce[s1.ce.length]? = some (.nd .lst (acc.map .d)) := by
      show (t5.ce ++ [_])[s1.ce.length]? = _
      rw [← j2, List.getElem?_append_right (Nat.le_refl _)]; simp
    obtain ⟨b, ws5, y1, y2, y3⟩ := c5.cells _ _ _ w1
    rw [prD5] at y1
    cases y1
    have y2' : H5 D = some (.lst ws5) := y2
    have hl := Paired.length y3
    refine ⟨ws5, y2', by rw [hl, List.length_map, sizeLine_eq]; omega, ?_⟩
    have c6 := (c5.put (kd := .lst) (es := acc.map .d ++ [.d d5]) (o := .lst (ws5 ++ [y])) w1 prD5 upd_same (y3.snoc ve5)).wipe (own.map (·.2))
    rw [ws] at c6
    have e6 : ((t5.blkI acc j (.d d)).put s1.ce.length .lst (acc.map .d ++ [.d d5])).wipe (own.map (·.2)) = t5.push .lst ((acc ++ [d5]).map .d) := by
      have hput : ((t5.push .lst (acc.map .d)).set j (.d d)).put s1.ce.length .lst (acc.map .d ++ [.d d5]) = (t5.push .lst (acc.map .d ++ [.d d5])).set j (.d d) := by
        show (⟨_, setN (t5.ce ++ [Cell.nd .lst _]) s1.ce.length _, _⟩ : S) = ⟨_, t5.ce ++ [_], _⟩
        rw [setN_eq, ← j2, List.set_append_right _ _ (Nat.le_refl _)]
        simp
        exact ⟨rfl, rfl⟩
      show (((t5.push .lst (acc.map .d)).set j (.d d)).put s1.ce.length .lst (acc.map .d ++ [.d d5])).wipe _ = _
      rw [hput, set_wipe hj]
      have e7 : wipeN t5.sl (own.map (·.2)) = t5.sl := congrArg S.sl j1
      show (⟨wipeN t5.sl _, _, _⟩ : S) = ⟨t5.sl, _, _⟩
      rw [e7, List.map_append]
      rfl
    rw [e6] at c6
    exact ⟨as5, G5, t5, acc ++ [d5], by simp [hal], c6, p5, (sg.trans x4.sub).trans x5.sub, w3⟩
  · have e : i = ds.length := by omega
    subst e
    refine .inl ⟨⟨vs, q1, by rw [r1.length]; exact Nat.le_refl _⟩, ?_⟩
    have x : Ext as1 as' G1 G' := ⟨pr1, sg⟩
    have z := hΘ _ _ (hd acc t hal q)
    have e8 : (⟨s1.sl, t.ce, s1.ar⟩ : S).push .lst (acc.map .d) = ⟨s1.sl, (t.push .lst (acc.map .d)).ce, s1.ar⟩ := rfl
    rw [e8] at z
    refine kk _ as' G' H' (.r t.ce.length) _ (c1.back c' x) (x1.trans x) ⟨D, ?_, rfl⟩ z
    show as'[t.ce.length]? = some D
    rw [i2]; exact prD
/-- [..] over an owned list, owned -/
theorem je_lcO (bx : Bx X B) (ok : BlkOk X.N X.env.scope scope own) (hj : j ∈ own.map (·.2)) (hn : ∀ Y, IsBlk X scope Y → NmW Y j x)
    (h : LcO X F iter elt scope (own.map (·.2)) j s fun ds t => Φ (.r t.ce.length) (t.push .lst (ds.map .d)))
    (hs : ∀ x, foldedSetIterable iter X.env x = pure x := by intro _; rfl) : JE X F (.ListComp elt [⟨.Name x p, iter, [], 0⟩] scope pos) s Φ :=
  je_of (pe_lc bx.calm bx.nd (pi_sem X _ iter) ok (pg_B hn) pts_B pe_B hs) (lcO_read hj h fun _ _ z => z)
/-- name = [..] on one line, owned -/
theorem js_setLcO {i : Nat} {y : Str} {py spos : Pos} {P : Po} (bx : Bx X B) (ny : NmW X i y) (ly : X.env.scope.names.lookup y = some .local) (hsw : swapsWith (.ListComp elt [⟨.Name x p, iter, [], 0⟩] scope pos) (some (.Name y py)) spos.line X.env = pure true)
    (ok : BlkOk X.N X.env.scope scope own) (hj : j ∈ own.map (·.2)) (hn : ∀ Y, IsBlk X scope Y → NmW Y j x)
    (h : LcO X F iter elt scope (own.map (·.2)) j s fun ds t => P.nx ((t.push .lst (ds.map .d)).set i (.r t.ce.length)))
    (hs : ∀ x, foldedSetIterable iter X.env x = pure x := by intro _; rfl) : JS X F (.Assign [.Name y py] (.ListComp elt [⟨.Name x p, iter, [], 0⟩] scope pos) spos) s P := fun as G H σ D c k =>
  PS.sem (ps_setLc bx.calm bx.nd ny.nm ly hsw (pi_sem X _ iter) ok (pg_B hn) pts_B pe_B hs) (lcO_read (Φ := fun e1 s1 => P.nx (s1.set i e1)) hj h (fun _ _ z => z) as G H σ _ c fun v as1 G1 H1 e1 s1 c1 x1 ve q => k.nx as1 G1 H1 _ _ (c1.set ve) x1.sub q)
end
end DL
namespace DL
open PySem PySem.Spec PyProof.Rows L2
variable {X : Cx} {F : Fr} {s : S}
/-! ### instances: fields -/
def ixF : List Str → Str → Option Nat
  | [], _ => none
  | g :: gs, f => if f = g then some 0 else (ixF gs f).map (· + 1)
theorem lk_ix {f : Str} : ∀ {fs : List Str} {vs : List V} {i : Nat} {v : V}, ixF fs f = some i → vs[i]? = some v → (fs.zip vs).lookup f = some v
  | [], _, _, _, h, _ => by cases h
  | g :: gs, [], _, _, _, h => by simp at h
  | g :: gs, w :: vs, i, v, h, h2 => by
    unfold ixF at h
    rw [List.zip_cons_cons, List.lookup_cons]
    by_cases e : f = g
    · rw [if_pos e] at h
      cases h
      cases h2
      rw [beq_iff_eq.mpr e]
    · rw [if_neg e] at h
      rw [beq_eq_false_iff_ne.mpr e]
      cases q : ixF gs f with
      | none => rw [q] at h; cases h
      | some j =>
        rw [q] at h
        cases h
        exact lk_ix q h2
theorem lk_no {f : Str} : ∀ {fs : List Str} {vs : List V}, ixF fs f = none → (fs.zip vs).lookup f = none
  | [], _, _ => rfl
  | g :: gs, [], _ => rfl
  | g :: gs, w :: vs, h => by
    unfold ixF at h
    rw [List.zip_cons_cons, List.lookup_cons]
    by_cases e : f = g
    · rw [if_pos e] at h; cases h
    · rw [if_neg e] at h
      rw [beq_eq_false_iff_ne.mpr e]
      cases q : ixF gs f with
      | none => exact lk_no q
      | some j => rw [q] at h; cases h
theorem putF_cons (f g : Str) (v w : V) (r : List (Str × V)) : putF f v ((g, w) :: r) = if g = f then (g, v) :: r else (g, w) :: putF f v r := rfl
theorem put_ix {f : Str} {v : V} : ∀ {fs : List Str} {vs : List V} {i : Nat}, ixF fs f = some i → fs.length = vs.length → putF f v (fs.zip vs) = fs.zip (vs.set i v)
  | [], _, _, h, _ => by cases h
  | g :: gs, [], _, _, h => by simp at h
  | g :: gs, w :: vs, i, h, hl => by
    unfold ixF at h
    rw [List.zip_cons_cons, putF_cons]
    by_cases e : f = g
    · rw [if_pos e] at h
      cases h
      rw [if_pos e.symm]; rfl
    · rw [if_neg e] at h
      rw [if_neg (fun z => e z.symm)]
      cases q : ixF gs f with
      | none => rw [q] at h; cases h
      | some j =>
        rw [q] at h
        cases h
        rw [put_ix q (by simpa using hl)]; rfl
theorem put_no {f : Str} {v : V} : ∀ {fs : List Str} {vs : List V}, ixF fs f = none → fs.length = vs.length → putF f v (fs.zip vs) = (fs ++ [f]).zip (vs ++ [v])
  | [], [], _, _ => rfl
  | [], _ :: _, _, h => by simp at h
  | g :: gs, [], _, h => by simp at h
  | g :: gs, w :: vs, h, hl => by
    unfold ixF at h
    rw [List.zip_cons_cons, putF_cons]
    by_cases e : f = g
    · rw [if_pos e] at h; cases h
    · rw [if_neg e] at h
      rw [if_neg (fun z => e z.symm)]
      cases q : ixF gs f with
      | none => rw [put_no q (by simpa using hl)]; rfl
      | some j => rw [q] at h; cases h
/-- a class: its fields read and written plainly -/
structure ClF (K : PySem.W.Frag) (C : Addr) (FS : List Str) : Prop where
  cl : Cls K C
  na : ∀ f ∈ FS, NoAttr K C f
section
variable {e a b c o value : Expr} {es rest : List Expr} {Φ : E → S → Prop} {pos pos' p apos : Pos} {x m f : Str} {k B : Nat} {C : Addr} {FS : List Str}
/-- what a field is asked of -/
def FldQ (X : Cx) (s : S) (f : Str) (eo : E) (Φ : E → S → Prop) : Prop := ∃ C FS fs es i e, s.node eo = some (.ins C fs, es) ∧ ClF X.K C FS ∧ f ∈ FS ∧ ixF fs f = some i ∧ nth es i = some e ∧ Φ e s
theorem fq {fs : List Str} {es : List E} {i : Nat} {eo e : E} (hc : ClF X.K C FS) (hn : s.node eo = some (.ins C fs, es)) (hf : f ∈ FS) (hi : ixF fs f = some i) (he : nth es i = some e) (q : Φ e s) : FldQ X s f eo Φ := ⟨C, FS, fs, es, i, e, hn, hc, hf, hi, he, q⟩
theorem je_fld (h : JE X F o s fun eo s1 => FldQ X s1 f eo Φ) (hb : attributeBase o f X.env (eval o X.env) = eval o X.env := by rfl) : JE X F (.Attribute o f pos) s Φ :=
  je_of (pe_fld (pe_sem X o) hb) fun as G H σ Q c k => h as G H σ _ c fun v as1 G1 H1 e1 s1 c1 x1 ve ⟨C, FS, fs, es, i, e, hn, hc, hf, hi, he, q⟩ => by
    obtain ⟨a, ws, rfl, n, we⟩ := c1.node ve hn
    obtain ⟨hl, dx, hH⟩ := n
    rw [nth_eq] at he
    obtain ⟨v, hv, vve⟩ := we.get' he
    exact ⟨a, C, dx, _, v, rfl, hH, hc.cl, hc.na f hf, lk_ix hi hv, k v as1 G1 H1 e s1 c1 x1 vve q⟩
theorem ves_set {K : PySem.W.Frag} {G : Hp} {as : List Addr} {v : V} {e : E} (ve : VE K G as v e) : ∀ {vs : List V} {es : List E} (i : Nat), VEs K G as vs es → VEs K G as (vs.set i v) (es.set i e)
  | _, _, _, .nil => .nil
  | _, _, 0, .cons _ t => .cons ve t
  | _, _, i + 1, .cons r t => .cons r (ves_set ve i t)
/-- o.f = value: a field that is there -/
theorem js_fldO {P : Po} (h : JE X F value s fun v s1 => JE X F o s1 fun eo s2 => ∃ k C FS fs es i, eo = .r k ∧ nth s2.ce k = some (.nd (.ins C fs) es) ∧ ClF X.K C FS ∧ f ∈ FS ∧ fs.length < 1000 ∧ ixF fs f = some i ∧ P.nx (s2.put k (.ins C fs) (es.set i v)))
    (hs : swapsWith value (some (.Attribute o f pos')) pos.line X.env = pure false := by rfl) : JS X F (.Assign [.Attribute o f pos'] value pos) s P := fun as G H σ D c kk =>
  PS.sem (ps_fld (pe_sem X o) (pe_sem X value) hs) (h as G H σ _ c fun v as1 G1 H1 e1 s1 c1 x1 ve h1 => h1 as1 G1 H1 σ _ c1 fun v2 as2 G2 H2 e2 s2 c2 x2 ve2 ⟨k, C, FS, fs, es, i, q1, q2, hc, hf, hl, hi, q⟩ => by
    subst q1
    obtain ⟨a, ha, rfl⟩ := ve2
    rw [nth_eq] at q2
    obtain ⟨b, vs, y1, y2, y3⟩ := c2.cells k _ _ q2
    rw [ha] at y1
    cases y1
    obtain ⟨hfl, dx, hH⟩ := y2
    refine ⟨a, C, dx, _, rfl, hH, hc.cl, hc.na f hf, by rw [List.length_zip]; omega, ?_⟩
    rw [put_ix hi hfl]
    exact kk.nx as2 G2 _ σ _ (c2.put (kd := .ins C fs) q2 ha ⟨by rw [List.length_set]; exact hfl, dx, upd_same⟩ (ves_set (x2.ve ve) i y3)) (x1.trans x2).sub q)
/-- .. a new one -/
theorem js_fldN {P : Po} (h : JE X F value s fun v s1 => JE X F o s1 fun eo s2 => ∃ k C FS fs es, eo = .r k ∧ nth s2.ce k = some (.nd (.ins C fs) es) ∧ ClF X.K C FS ∧ f ∈ FS ∧ fs.length < 1000 ∧ ixF fs f = none ∧ P.nx (s2.put k (.ins C (fs ++ [f])) (es ++ [v])))
    (hs : swapsWith value (some (.Attribute o f pos')) pos.line X.env = pure false := by rfl) : JS X F (.Assign [.Attribute o f pos'] value pos) s P := fun as G H σ D c kk =>
  PS.sem (ps_fld (pe_sem X o) (pe_sem X value) hs) (h as G H σ _ c fun v as1 G1 H1 e1 s1 c1 x1 ve h1 => h1 as1 G1 H1 σ _ c1 fun v2 as2 G2 H2 e2 s2 c2 x2 ve2 ⟨k, C, FS, fs, es, q1, q2, hc, hf, hl, hi, q⟩ => by
    subst q1
    obtain ⟨a, ha, rfl⟩ := ve2
    rw [nth_eq] at q2
    obtain ⟨b, vs, y1, y2, y3⟩ := c2.cells k _ _ q2
    rw [ha] at y1
    cases y1
    obtain ⟨hfl, dx, hH⟩ := y2
    refine ⟨a, C, dx, _, rfl, hH, hc.cl, hc.na f hf, by rw [List.length_zip]; omega, ?_⟩
    rw [put_no hi hfl]
    exact kk.nx as2 G2 _ σ _ (c2.put (kd := .ins C (fs ++ [f])) q2 ha ⟨by rw [List.length_append, List.length_append, hfl]; rfl, dx, upd_same⟩ (y3.snoc (x2.ve ve))) (x1.trans x2).sub q)
/-! ### an object that nobody looks at -/
theorem Cz.lay {as : List Addr} {G H : Hp} {σ : L2.St} (c : Cz X F as G H σ s) {p : Addr} {o : HO} (h : H p = none) : Cz X F as G (upd H p o) σ s := by
  have gn := c.gnone h
  have ni := c.notin h
  have h0 := c.h0none h
  refine ⟨fun b u q => by rw [upd_ne (ne_of_none q gn)]; exact c.sub b u q, c.base, c.new, fun b u q1 q2 => by rw [upd_ne (ne_of_none q1 h0)]; exact c.frame b u q1 q2, c.len, c.pre, c.nd, c.own, c.fresh, fun a ha => ?_, fun k kd es hk => ?_, c.slots, c.slen, c.har⟩
  · rw [upd_ne (fun z => ni (by rw [← z]; exact ha))]; exact c.there a ha
  · obtain ⟨a, vs, h1, h2, h3⟩ := c.cells k kd es hk
    exact ⟨a, vs, h1, h2.keep fun u q => by rw [upd_ne (ne_of_none q h)]; exact q, h3⟩
/-! ### C(..) -/
structure CaM (P : Program) (w : World) (K : PySem.W.Frag) (mg : Str → Option Value) (base : Heap) (x : Str) (k : Nat) (C : Addr) (R : RS) : Prop where
  mono : MonoS R
  mgC : mg x = some (.ref C)
  ex : ∃ f fd ps, Mk K C f ∧ Binds K fd ps [] ∧ FnOk P w K mg base CX0 k f fd ps (spS K R)
structure CbM (X : Cx) (x : Str) (k : Nat) (C : Addr) (R : RS) : Prop where
  gl : Gl X x
  mono : MonoS R
  mgC : X.mg x = some (.ref C)
  ex : ∃ f fd ps, Mk X.K C f ∧ Binds X.K fd ps [] ∧ FnOk X.prog X.w X.K X.mg X.base CX0 k f fd ps (spS X.K R)
theorem CaM.at {X : Cx} {P : Program} {w : World} {K : PySem.W.Frag} {mg : Str → Option Value} {base : Heap} {N : List Str} {sc : Scope} {k j : Nat} {x : Str} {C : Addr} {R : RS} (c : CaM P w K mg base x j C R) (h : XIs X P w K mg base N sc k)
    (h1 : sc.names.lookup x = some .globalImplicit) : CbM X x j C R := by
  obtain ⟨e1, e2, e3, e4, e5, _⟩ := id h
  subst e1 e2 e3 e4 e5
  exact ⟨h.gl h1, c.mono, c.mgC, c.ex⟩
def MkQ (X : Cx) (C : Addr) (R : RS) (s1 : S) (vs : List E) (Φ : E → S → Prop) : Prop := ∃ js ce es0, Goes (s1.push (.ins C []) []) js ce ∧ (.r s1.ce.length :: vs) = es0.map (E.ren (jsF js (s1.push (.ins C []) []).ce.length)) ∧ es0.all (E.lt js.length) = true ∧ R ce es0 fun e ce' => e = .d .non ∧ Φ (.r s1.ce.length) ((s1.push (.ins C []) []).back js ce')
theorem make_go {R : RS} {f0 : Addr} {fd : FuncData} {ps : List Str} (mono : MonoS R) {as1 : List Addr} {G1 H1 : Hp} {σ : L2.St} {s1 : S} (c1 : Cz X F as1 G1 H1 σ s1) {vs : List V} {es1 : List E} (ves : VEs X.K G1 as1 vs es1) (q : MkQ X C R s1 es1 Φ) {Q : VK} {E0 : XK}
    (kk : ∀ v as' G' H' e' s', Cz X F as' G' H' σ s' → Ext as1 as' G1 G' → VE X.K G' as' v e' → Φ e' s' → Q v H') (x dx : Addr) (nx : H1 x = none) (ndx : H1 dx = none) (nex : dx ≠ x) :
    spS X.K R (.ref x :: (vs ++ [])) (upd (upd H1 dx (.own x)) x (.ins C dx [])) (fun v H2 => v = .non ∧ Q (.ref x) H2) E0 := by
  obtain ⟨js, ce, es0, g, q1, q2, hR⟩ := q
  rw [List.append_nil]
  have c2 : Cz X F as1 G1 (upd H1 dx (.own x)) σ s1 := c1.lay ndx
  have nx2 : (upd H1 dx (.own x)) x = none := by rw [upd_ne (Ne.symm nex)]; exact nx
  have c3 := c2.addO (p := x) (o := .ins C dx []) (kd := .ins C []) (vs := []) (es := []) nx2 ⟨rfl, dx, upd_same⟩ .nil
  have hx : (as1 ++ [x])[s1.ce.length]? = some x := by rw [← c1.len, List.getElem?_append_right (Nat.le_refl _)]; simp
  have x3 : Ext as1 (as1 ++ [x]) G1 G1 := ⟨pre_snoc, Same.refl _⟩
  have ves3 : VEs X.K G1 (as1 ++ [x]) (.ref x :: vs) (.r s1.ce.length :: es1) := .cons ⟨x, hx, rfl⟩ (x3.ves ves)
  rw [q1] at ves3
  have hb : ∀ j ∈ js, j < (as1 ++ [x]).length := fun j hj => by rw [c3.len]; exact g.2.1 j hj
  refine ⟨subA (as1 ++ [x]) js, ce, es0, G1, c3.sub, c3.goes g, ves_in hb q2 ves3, mono ce es0 _ _ (fun e ce' ⟨he, hr⟩ v as' G' H' w1 w2 w3 w4 w5 w6 ow ve => ?_) hR⟩
  subst he
  cases ve
  have c4 := c3.ret g w1 w2 w3 w4 w5 w6 ow
  have x4 : Ext as1 (as1 ++ [x] ++ List.drop js.length as') G1 G' := x3.trans ⟨⟨_, rfl⟩, w4⟩
  exact ⟨rfl, kk (.ref x) _ G' H' (.r s1.ce.length) _ c4 x4 ⟨x, pre_get ⟨_, rfl⟩ hx, rfl⟩ hr⟩
theorem je_make {R : RS} (cb : CbM X x k C R) (bx : Bx X B) (hB : k + 1 ≤ B) (h : JA X F (a :: es) s fun vs s1 => MkQ X C R s1 vs Φ) (hdb : (x == ("__debug__" : Str)) = false := by decide)
    (he : starEach (a :: es) X.env = (false, eval a X.env) :: starEach es X.env := by rfl) (hpl : (backTo pos (starEach es X.env)).any (·.1) = false := by rfl) : JE X F (.Call (.Name x p) (a :: es) [] pos) s Φ := by
  obtain ⟨f, fd, ps, h2, h3, h4⟩ := cb.ex
  refine je_of (pe_make h2 h4 (bx.room.mono hB) cb.gl cb.mgC h3 .nil pass0 (pa_sem X _) hdb he hpl) fun as G H σ Q c kk => h as G H σ _ c fun vs as1 G1 H1 es1 s1 c1 x1 ves q y dy ny ndy ney => ?_
  exact make_go (f0 := f) (fd := fd) (ps := ps) cb.mono c1 ves q (fun v as' G' H' e' s' c' x' ve q' => kk v as' G' H' e' s' c' (x1.trans x') ve q') y dy ny ndy ney
theorem je_make0 {R : RS} (cb : CbM X x k C R) (bx : Bx X B) (hB : k + 1 ≤ B) (h : MkQ X C R s [] Φ) (hdb : (x == ("__debug__" : Str)) = false := by decide) : JE X F (.Call (.Name x p) [] [] pos) s Φ := by
  obtain ⟨f, fd, ps, h2, h3, h4⟩ := cb.ex
  refine je_of (pe_make0 h2 h4 (bx.room.mono hB) cb.gl cb.mgC h3 .nil pass0 hdb) fun as G H σ Q c kk y dy ny ndy ney => ?_
  exact make_go (f0 := f) (fd := fd) (ps := ps) cb.mono c .nil h (fun v as' G' H' e' s' c' x' ve q' => kk v as' G' H' e' s' c' x' ve q') y dy ny ndy ney
end
end DL
namespace DL
open PySem PySem.Spec PyProof.Rows L2
variable {X : Cx} {F : Fr} {s : S}
/-! ### owned things seen as data, cells in cells -/
def vwL (f : E → Option D) : List E → Option (List D)
  | [] => some []
  | e :: es => match f e, vwL f es with
    | some d, some ds => some (d :: ds)
    | _, _ => none
def S.vw (s : S) : Nat → E → Option D
  | _, .d x => some x
  | 0, .r _ => none
  | n + 1, .r k => match nth s.ce k with
    | some (.nd kd es) => (vwL (s.vw n) es).map (.nd kd)
    | _ => none
theorem vwL_nil {f : E → Option D} : vwL f [] = some [] := rfl
theorem vwL_cons {f : E → Option D} {e : E} {es : List E} {d : D} {ds : List D} (h1 : f e = some d) (h2 : vwL f es = some ds) : vwL f (e :: es) = some (d :: ds) := by unfold vwL; rw [h1, h2]
theorem vw_d {n : Nat} {x : D} : s.vw n (.d x) = some x := by cases n <;> rfl
theorem vw_r {n k : Nat} {kd : Kd} {es : List E} {ds : List D} (h1 : nth s.ce k = some (.nd kd es)) (h2 : vwL (s.vw n) es = some ds) : s.vw (n + 1) (.r k) = some (.nd kd ds) := by
  show (match nth s.ce k with
    | some (.nd kd es) => (vwL (s.vw n) es).map (D.nd kd)
    | _ => none) = _
  rw [h1]
  show (vwL (s.vw n) es).map _ = _
  rw [h2]; rfl
theorem vwL_ds {n : Nat} : ∀ (ds : List D), vwL (s.vw n) (ds.map .d) = some ds
  | [] => rfl
  | d :: ds => vwL_cons vw_d (vwL_ds ds)
theorem Cz.vws {as : List Addr} {G H : Hp} {σ : L2.St} (c : Cz X F as G H σ s) : ∀ (n : Nat),
    (∀ {v : V} {e : E} {d : D}, VE X.K G as v e → s.vw n e = some d → Rep X.K (lend s as G H) v d) ∧
    (∀ {vs : List V} {es : List E} {ds : List D}, VEs X.K G as vs es → vwL (s.vw n) es = some ds → Reps X.K (lend s as G H) vs ds) := fun n => by
  have list : ∀ {n : Nat}, (∀ {v : V} {e : E} {d : D}, VE X.K G as v e → s.vw n e = some d → Rep X.K (lend s as G H) v d) → ∀ {vs : List V} {es : List E} {ds : List D}, VEs X.K G as vs es → vwL (s.vw n) es = some ds → Reps X.K (lend s as G H) vs ds := fun {n} one {vs es ds} h => by
    induction h generalizing ds with
    | nil => intro q; cases q; exact .nil
    | @cons v e vs es r t ih =>
      intro q
      unfold vwL at q
      cases q1 : s.vw n e with
      | none => rw [q1] at q; simp at q
      | some d =>
        cases q2 : vwL (s.vw n) es with
        | none => rw [q1, q2] at q; simp at q
        | some ds' =>
          rw [q1, q2] at q
          simp at q
          subst q
          exact .cons (one r q1) (ih q2)
  have one : ∀ n, ∀ {v : V} {e : E} {d : D}, VE X.K G as v e → s.vw n e = some d → Rep X.K (lend s as G H) v d := fun n => by
    induction n with
    | zero =>
      intro v e d ve q
      cases e with
      | d x => cases q; exact Rep.mono lend_sub ve
      | r k => cases q
    | succ n ih =>
      intro v e d ve q
      cases e with
      | d x => cases q; exact Rep.mono lend_sub ve
      | r k =>
        obtain ⟨a, h1, rfl⟩ := ve
        have q : (match nth s.ce k with
          | some (.nd kd es) => (vwL (s.vw n) es).map (D.nd kd)
          | _ => none) = some d := q
        rw [nth_eq] at q
        cases hc : s.ce[k]? with
        | none => rw [hc] at q; cases q
        | some cl =>
          rw [hc] at q
          cases cl with
          | gone => cases q
          | nd kd es =>
            cases q2 : vwL (s.vw n) es with
            | none => simp [q2] at q
            | some ds =>
              simp [q2] at q
              subst q
              obtain ⟨b, vs, g1, g2, g3⟩ := c.cells k _ _ hc
              rw [h1] at g1
              cases g1
              have la : ∀ o, H a = some o → lend s as G H a = some o := fun o q => by
                rw [lend_yes (c.own k a _ _ h1 hc) ⟨k, _, _, h1, hc⟩]
                exact q
              have : CellAt (lend s as G H) a vs kd := g2.keep la
              exact .nd this.node (list (fun ve q => ih ve q) g3 q2)
  exact ⟨one n, list (one n)⟩
/-- behind a call that only read -/
theorem Cz.lent {as1 : List Addr} {G1 H1 G' H' : Hp} {σ : L2.St} {s1 : S} {v : V} {r : Rt} {Φ : E → S → Prop} (c1 : Cz X F as1 G1 H1 σ s1) (q1 : Same H1 H') (q2 : Same (lend s1 as1 G1 H1) G') (q3 : Same G' H') (q4 : ∀ b, lend s1 as1 G1 H1 b = none → H1 b ≠ none → G' b = none)
    (q5 : RtAt X.K G' H' H1 v r) (hi : r.imm = true) (hr : RtΦ Φ s1 r) : ∃ as' G2 e s', Cz X F as' G2 H' σ s' ∧ Ext as1 as' G1 G2 ∧ VE X.K G2 as' v e ∧ Φ e s' := by
  obtain ⟨G2, hG2, hG3⟩ : ∃ G2 : Hp, (∀ b, Alive s1 as1 b → G2 b = none) ∧ ∀ b, ¬ Alive s1 as1 b → G2 b = G' b := by
    classical
    exact ⟨fun b => if Alive s1 as1 b then none else G' b, fun b h => if_pos h, fun b h => if_neg h⟩
  have ga : ∀ {b : Addr}, Alive s1 as1 b → G1 b = none := fun {b} ⟨k, kd, es, w1, w2⟩ => c1.own k b _ _ w1 w2
  have s1' : Same G1 G2 := fun b o q => by
    rw [hG3 b (fun z => by rw [ga z] at q; cases q)]
    exact q2 b o (lend_sub b o q)
  have s2' : Same G2 H' := fun b o q => by
    by_cases hb : Alive s1 as1 b
    · rw [hG2 b hb] at q; cases q
    · rw [hG3 b hb] at q; exact q3 b o q
  have s4' : ∀ b, G1 b = none → H1 b ≠ none → G2 b = none := fun b w1 w2 => by
    by_cases hb : Alive s1 as1 b
    · exact hG2 b hb
    · rw [hG3 b hb]
      exact q4 b (lend_no w1 hb) w2
  have c2 := c1.call q1 s1' s2' s4'
  have x2 : Ext as1 as1 G1 G2 := ⟨List.prefix_refl _, s1'⟩
  have tups : ∀ a vs, Rd G' a (.tup vs) → Rd G2 a (.tup vs) := fun b ws hb => by
    have nb : ¬ Alive s1 as1 b := fun z => by
      have w0 := ga z
      obtain ⟨j, kd, es, hj, hcl⟩ := z
      obtain ⟨b', us, g1, g2, g3⟩ := c1.cells j _ _ hcl
      rw [hj] at g1
      cases g1
      obtain ⟨o, ho⟩ := g2.some
      have hG' : G' b = some o := q2 b o (by rw [lend_yes w0 ⟨j, kd, es, hj, hcl⟩]; exact ho)
      have g2' : CellAt G' b us kd := g2.keep fun u q => by rw [ho] at q; cases q; exact hG'
      rcases hb with hb | ⟨oo, hb⟩
      · cases kd with
        | tup => exact g2'
        | lst => have : G' b = some (.lst us) := g2'; rw [hb] at this; cases this
        | dct ks => obtain ⟨_, _, _, this⟩ := g2'; rw [hb] at this; cases this
        | ins C fs => obtain ⟨_, _, this⟩ := g2'; rw [hb] at this; cases this
      · cases kd with
        | tup => exact g2'
        | lst => have : G' b = some (.lst us) := g2'; rw [hb] at this; cases this
        | dct ks => obtain ⟨_, _, _, this⟩ := g2'; rw [hb] at this; cases this
        | ins C fs => obtain ⟨_, _, this⟩ := g2'; rw [hb] at this; cases this
    rcases hb with hb | ⟨oo, hb⟩
    · exact .inl (by rw [hG3 b nb]; exact hb)
    · exact .inr ⟨oo, by rw [hG3 b nb]; exact hb⟩
  cases r with
  | dat y => exact ⟨as1, G2, .d y, s1, c2, x2, imm_keep tups _ _ q5 hi, hr⟩
  | new kd ds' =>
    obtain ⟨b, ws, rfl, w1, w2, w3, w4⟩ := q5
    have gb : G2 b = none := by
      by_cases hb : Alive s1 as1 b
      · exact hG2 b hb
      · rw [hG3 b hb]; exact w2
    have c3 := c2.grow (kd := kd) (es := ds'.map .d) gb (c1.notin w1) (c1.h0none w1) w3 (VEs.ofReps (imm_keeps tups _ _ w4 hi))
    exact ⟨_, G2, .r s1.ce.length, _, c3, x2.trans ⟨pre_snoc, Same.refl _⟩, ⟨b, by rw [← c1.len, List.getElem?_append_right (Nat.le_refl _)]; simp, rfl⟩, hr⟩
/-- behind a call of frozen things -/
theorem Cz.frzd {as1 : List Addr} {G1 H1 G' H' : Hp} {σ : L2.St} {s1 : S} {v : V} {r : Rt} {Φ : E → S → Prop} (c1 : Cz X F as1 G1 H1 σ s1) (q1 : Same H1 H') (q2 : Same G1 G') (q3 : Same G' H') (q4 : ∀ b, G1 b = none → H1 b ≠ none → G' b = none)
    (q5 : RtAt X.K G' H' H1 v r) (hr : RtΦ Φ s1 r) : ∃ as' G2 e s', Cz X F as' G2 H' σ s' ∧ Ext as1 as' G1 G2 ∧ VE X.K G2 as' v e ∧ Φ e s' := by
  have c2 := c1.call q1 q2 q3 q4
  have x2 : Ext as1 as1 G1 G' := ⟨List.prefix_refl _, q2⟩
  cases r with
  | dat y => exact ⟨as1, G', .d y, s1, c2, x2, q5, hr⟩
  | new kd ds' =>
    obtain ⟨b, ws, rfl, w1, w2, w3, w4⟩ := q5
    have c3 := c2.grow (kd := kd) (es := ds'.map .d) w2 (c1.notin w1) (c1.h0none w1) w3 (VEs.ofReps w4)
    exact ⟨_, G', .r s1.ce.length, _, c3, x2.trans ⟨pre_snoc, Same.refl _⟩, ⟨b, by rw [← c1.len, List.getElem?_append_right (Nat.le_refl _)]; simp, rfl⟩, hr⟩
section
variable {e a b c o value : Expr} {es rest : List Expr} {Φ : E → S → Prop} {pos pos' p apos : Pos} {x m f : Str} {k B : Nat} {C : Addr} {FS : List Str}
/-- f(..), what is owned only read, cells in cells -/
theorem je_callV {R : RP} (cb : CbP X x k R) (bx : Bx X B) (hB : k ≤ B)
    (h : JA X F (a :: es) s fun vs s1 => ∃ n ds, vwL (s1.vw n) vs = some ds ∧ R ds fun r => r.imm = true ∧ RtΦ Φ s1 r) (hdb : (x == ("__debug__" : Str)) = false := by decide) (he : starEach (a :: es) X.env = (false, eval a X.env) :: starEach es X.env := by rfl)
    (hpl : (backTo pos (starEach es X.env)).any (·.1) = false := by rfl) : JE X F (.Call (.Name x p) (a :: es) [] pos) s Φ := by
  obtain ⟨f, fd, ps, h1, h2, h3, h4⟩ := cb.ex
  refine je_of (pe_call h4 (bx.room.mono hB) cb.gl h1 h2 h3 .nil pass0 (pa_sem X _) hdb he hpl) fun as G H σ Q c kk => h as G H σ _ c fun vs as1 G1 H1 es1 s1 c1 x1 ves ⟨n, ds, e1, hR⟩ => ?_
  rw [List.append_nil]
  refine ⟨lend s1 as1 G1 H1, ds, lend_in c1.sub, (c1.vws n).2 ves e1, cb.mono ds _ _ (fun r ⟨hi, hr⟩ v G' H' q1 q2 q3 q4 q5 => ?_) hR⟩
  obtain ⟨as', G2, e, s', w1, w2, w3, w4⟩ := c1.lent q1 q2 q3 q4 q5 hi hr
  exact kk v as' G2 H' e s' w1 (x1.trans w2) w3 w4
/-! ### methods -/
structure CaH (P : Program) (w : World) (K : PySem.W.Frag) (mg : Str → Option Value) (base : Heap) (C : Addr) (m : Str) (k : Nat) (sp : Sp) : Prop where
  cl : Cls K C
  ex : ∃ f fd ps, Meth K C m f ∧ Binds K fd ps [] ∧ FnOk P w K mg base CX0 k f fd ps sp
structure CaHP (P : Program) (w : World) (K : PySem.W.Frag) (mg : Str → Option Value) (base : Heap) (C : Addr) (m : Str) (k : Nat) (R : RP) : Prop where
  mono : MonoP R
  h : CaH P w K mg base C m k (spP K R)
structure CaHS (P : Program) (w : World) (K : PySem.W.Frag) (mg : Str → Option Value) (base : Heap) (C : Addr) (m : Str) (k : Nat) (R : RS) : Prop where
  mono : MonoS R
  h : CaH P w K mg base C m k (spS K R)
structure CbHP (X : Cx) (C : Addr) (m : Str) (k : Nat) (R : RP) : Prop where
  mono : MonoP R
  cl : Cls X.K C
  ex : ∃ f fd ps, Meth X.K C m f ∧ Binds X.K fd ps [] ∧ FnOk X.prog X.w X.K X.mg X.base CX0 k f fd ps (spP X.K R)
structure CbHS (X : Cx) (C : Addr) (m : Str) (k : Nat) (R : RS) : Prop where
  mono : MonoS R
  cl : Cls X.K C
  ex : ∃ f fd ps, Meth X.K C m f ∧ Binds X.K fd ps [] ∧ FnOk X.prog X.w X.K X.mg X.base CX0 k f fd ps (spS X.K R)
theorem CaHP.at {X : Cx} {P : Program} {w : World} {K : PySem.W.Frag} {mg : Str → Option Value} {base : Heap} {N : List Str} {sc : Scope} {k j : Nat} {C : Addr} {m : Str} {R : RP} (c : CaHP P w K mg base C m j R) (h : XIs X P w K mg base N sc k) : CbHP X C m j R := by
  obtain ⟨e1, e2, e3, e4, e5, _⟩ := id h
  subst e1 e2 e3 e4 e5
  exact ⟨c.mono, c.h.cl, c.h.ex⟩
theorem CaHS.at {X : Cx} {P : Program} {w : World} {K : PySem.W.Frag} {mg : Str → Option Value} {base : Heap} {N : List Str} {sc : Scope} {k j : Nat} {C : Addr} {m : Str} {R : RS} (c : CaHS P w K mg base C m j R) (h : XIs X P w K mg base N sc k) : CbHS X C m j R := by
  obtain ⟨e1, e2, e3, e4, e5, _⟩ := id h
  subst e1 e2 e3 e4 e5
  exact ⟨c.mono, c.h.cl, c.h.ex⟩
def MthEv (X : Cx) (o : Expr) (m : Str) (es : List Expr) (pos apos : Pos) (pl : Sem Bool) : Prop := eval (.Call (.Attribute o m apos) es [] pos) X.env = (do
  let ov ← eval o X.env
  standAt apos.atName
  let (f, first) ← holding [ov] (getMethod ov m pl)
  callWith pos f first (backTo pos (starEach es X.env)) (backToKw pos (keywordEach [] X.env)))
/-- o.m(..), what is owned only read -/
theorem je_methP {R : RP} {pl : Sem Bool} (cb : CbHP X C m k R) (bx : Bx X B) (hB : k ≤ B)
    (h : JE X F o s fun eo s1 => ∃ fs es', s1.node eo = some (.ins C fs, es') ∧ ixF fs m = none ∧ JA X F (a :: es) s1 fun vs s2 => ∃ n ds, vwL (s2.vw n) (eo :: vs) = some ds ∧ R ds fun r => r.imm = true ∧ RtΦ Φ s2 r)
    (hev : MthEv X o m (a :: es) pos apos pl) (he : starEach (a :: es) X.env = (false, eval a X.env) :: starEach es X.env := by rfl) (hpl : (backTo pos (starEach es X.env)).any (·.1) = false := by rfl) : JE X F (.Call (.Attribute o m apos) (a :: es) [] pos) s Φ := by
  obtain ⟨f, fd, ps, h2, h3, h4⟩ := cb.ex
  refine je_of (pe_meth (pe_sem X o) cb.cl h2 h4 (bx.room.mono hB) h3 .nil pass0 (pa_sem X _) he hpl hev) fun as G H σ Q c kk => h as G H σ _ c fun v1 as1 G1 H1 e1 s1 c1 x1 ve1 ⟨fs, es', hn, hm, h1⟩ => ?_
  obtain ⟨ad, ws, rfl, n, we⟩ := c1.node ve1 hn
  obtain ⟨hl, dx, hH⟩ := n
  refine ⟨ad, dx, _, rfl, hH, lk_no hm, h1 as1 G1 H1 σ _ c1 fun vs as2 G2 H2 es2 s2 c2 x2 ves ⟨n, ds, q, hR⟩ => ?_⟩
  rw [List.append_nil]
  refine ⟨lend s2 as2 G2 H2, ds, lend_in c2.sub, (c2.vws n).2 (.cons (x2.ve ve1) ves) q, cb.mono ds _ _ (fun r ⟨hi, hr⟩ v G' H' q1 q2 q3 q4 q5 => ?_) hR⟩
  obtain ⟨as', G3, e, s', w1, w2, w3, w4⟩ := c2.lent q1 q2 q3 q4 q5 hi hr
  exact kk v as' G3 H' e s' w1 ((x1.trans x2).trans w2) w3 w4
theorem je_methP0 {R : RP} {pl : Sem Bool} (cb : CbHP X C m k R) (bx : Bx X B) (hB : k ≤ B)
    (h : JE X F o s fun eo s1 => ∃ fs es', s1.node eo = some (.ins C fs, es') ∧ ixF fs m = none ∧ ∃ n ds, vwL (s1.vw n) [eo] = some ds ∧ R ds fun r => r.imm = true ∧ RtΦ Φ s1 r)
    (hev : MthEv X o m [] pos apos pl) : JE X F (.Call (.Attribute o m apos) [] [] pos) s Φ := by
  obtain ⟨f, fd, ps, h2, h3, h4⟩ := cb.ex
  refine je_of (pe_meth0 (pe_sem X o) cb.cl h2 h4 (bx.room.mono hB) h3 .nil pass0 hev) fun as G H σ Q c kk => h as G H σ _ c fun v1 as1 G1 H1 e1 s1 c1 x1 ve1 ⟨fs, es', hn, hm, n, ds, q, hR⟩ => ?_
  obtain ⟨ad, ws, rfl, nn, we⟩ := c1.node ve1 hn
  obtain ⟨hl, dx, hH⟩ := nn
  refine ⟨ad, dx, _, rfl, hH, lk_no hm, ?_⟩
  refine ⟨lend s1 as1 G1 H1, ds, lend_in c1.sub, (c1.vws n).2 (.cons ve1 .nil) q, cb.mono ds _ _ (fun r ⟨hi, hr⟩ v G' H' q1 q2 q3 q4 q5 => ?_) hR⟩
  obtain ⟨as', G3, e, s', w1, w2, w3, w4⟩ := c1.lent q1 q2 q3 q4 q5 hi hr
  exact kk v as' G3 H' e s' w1 (x1.trans w2) w3 w4
/-- o.m(..), all frozen -/
theorem je_methD {R : RP} {pl : Sem Bool} (cb : CbHP X C m k R) (bx : Bx X B) (hB : k ≤ B)
    (h : JE X F o s fun eo s1 => ∃ fs es', s1.node eo = some (.ins C fs, es') ∧ ixF fs m = none ∧ JA X F (a :: es) s1 fun vs s2 => ∃ ds, dsOf (eo :: vs) = some ds ∧ R ds fun r => RtΦ Φ s2 r)
    (hev : MthEv X o m (a :: es) pos apos pl) (he : starEach (a :: es) X.env = (false, eval a X.env) :: starEach es X.env := by rfl) (hpl : (backTo pos (starEach es X.env)).any (·.1) = false := by rfl) : JE X F (.Call (.Attribute o m apos) (a :: es) [] pos) s Φ := by
  obtain ⟨f, fd, ps, h2, h3, h4⟩ := cb.ex
  refine je_of (pe_meth (pe_sem X o) cb.cl h2 h4 (bx.room.mono hB) h3 .nil pass0 (pa_sem X _) he hpl hev) fun as G H σ Q c kk => h as G H σ _ c fun v1 as1 G1 H1 e1 s1 c1 x1 ve1 ⟨fs, es', hn, hm, h1⟩ => ?_
  obtain ⟨ad, ws, rfl, n, we⟩ := c1.node ve1 hn
  obtain ⟨hl, dx, hH⟩ := n
  refine ⟨ad, dx, _, rfl, hH, lk_no hm, h1 as1 G1 H1 σ _ c1 fun vs as2 G2 H2 es2 s2 c2 x2 ves ⟨ds, q, hR⟩ => ?_⟩
  rw [List.append_nil]
  have vv : VEs X.K G2 as2 (.ref ad :: vs) (e1 :: es2) := .cons (x2.ve ve1) ves
  rw [dsOf_eq q] at vv
  refine ⟨G2, ds, c2.sub, vv.reps, cb.mono ds _ _ (fun r hr v G' H' q1 q2 q3 q4 q5 => ?_) hR⟩
  obtain ⟨as', G3, e, s', w1, w2, w3, w4⟩ := c2.frzd q1 q2 q3 q4 q5 hr
  exact kk v as' G3 H' e s' w1 ((x1.trans x2).trans w2) w3 w4
theorem je_methD0 {R : RP} {pl : Sem Bool} (cb : CbHP X C m k R) (bx : Bx X B) (hB : k ≤ B)
    (h : JE X F o s fun eo s1 => ∃ fs es', s1.node eo = some (.ins C fs, es') ∧ ixF fs m = none ∧ ∃ ds, dsOf [eo] = some ds ∧ R ds fun r => RtΦ Φ s1 r)
    (hev : MthEv X o m [] pos apos pl) : JE X F (.Call (.Attribute o m apos) [] [] pos) s Φ := by
  obtain ⟨f, fd, ps, h2, h3, h4⟩ := cb.ex
  refine je_of (pe_meth0 (pe_sem X o) cb.cl h2 h4 (bx.room.mono hB) h3 .nil pass0 hev) fun as G H σ Q c kk => h as G H σ _ c fun v1 as1 G1 H1 e1 s1 c1 x1 ve1 ⟨fs, es', hn, hm, ds, q, hR⟩ => ?_
  obtain ⟨ad, ws, rfl, n, we⟩ := c1.node ve1 hn
  obtain ⟨hl, dx, hH⟩ := n
  refine ⟨ad, dx, _, rfl, hH, lk_no hm, ?_⟩
  have vv : VEs X.K G1 as1 [.ref ad] [e1] := .cons ve1 .nil
  rw [dsOf_eq q] at vv
  refine ⟨G1, ds, c1.sub, vv.reps, cb.mono ds _ _ (fun r hr v G' H' q1 q2 q3 q4 q5 => ?_) hR⟩
  obtain ⟨as', G3, e, s', w1, w2, w3, w4⟩ := c1.frzd q1 q2 q3 q4 q5 hr
  exact kk v as' G3 H' e s' w1 (x1.trans w2) w3 w4
/-- o.m(..), cells that go along -/
theorem je_methS {R : RS} {pl : Sem Bool} (cb : CbHS X C m k R) (bx : Bx X B) (hB : k ≤ B)
    (h : JE X F o s fun eo s1 => ∃ fs es', s1.node eo = some (.ins C fs, es') ∧ ixF fs m = none ∧ JA X F (a :: es) s1 fun vs s2 => ∃ js ce es0, Goes s2 js ce ∧ (eo :: vs) = es0.map (E.ren (jsF js s2.ce.length)) ∧ es0.all (E.lt js.length) = true ∧ R ce es0 fun e ce' => Φ (e.ren (jsF js s2.ce.length)) (s2.back js ce'))
    (hev : MthEv X o m (a :: es) pos apos pl) (he : starEach (a :: es) X.env = (false, eval a X.env) :: starEach es X.env := by rfl) (hpl : (backTo pos (starEach es X.env)).any (·.1) = false := by rfl) : JE X F (.Call (.Attribute o m apos) (a :: es) [] pos) s Φ := by
  obtain ⟨f, fd, ps, h2, h3, h4⟩ := cb.ex
  refine je_of (pe_meth (pe_sem X o) cb.cl h2 h4 (bx.room.mono hB) h3 .nil pass0 (pa_sem X _) he hpl hev) fun as G H σ Q c kk => h as G H σ _ c fun v1 as1 G1 H1 e1 s1 c1 x1 ve1 ⟨fs, es', hn, hm, h1⟩ => ?_
  obtain ⟨ad, ws, rfl, n, we⟩ := c1.node ve1 hn
  obtain ⟨hl, dx, hH⟩ := n
  refine ⟨ad, dx, _, rfl, hH, lk_no hm, h1 as1 G1 H1 σ _ c1 fun vs as2 G2 H2 es2 s2 c2 x2 ves ⟨js, ce, es0, g, q1, q2, hR⟩ => ?_⟩
  rw [List.append_nil]
  have vv : VEs X.K G2 as2 (.ref ad :: vs) (e1 :: es2) := .cons (x2.ve ve1) ves
  rw [q1] at vv
  have hb : ∀ j ∈ js, j < as2.length := fun j hj => by rw [c2.len]; exact g.2.1 j hj
  refine ⟨subA as2 js, ce, es0, G2, c2.sub, c2.goes g, ves_in hb q2 vv, cb.mono ce es0 _ _ (fun e ce' hr v as' G' H' w1 w2 w3 w4 w5 w6 ow ve => ?_) hR⟩
  have c3 := c2.ret g w1 w2 w3 w4 w5 w6 ow
  have ve2 := ve_out hb w1 ve
  rw [c2.len] at ve2
  exact kk v _ G' H' _ _ c3 ((x1.trans x2).trans ⟨⟨_, rfl⟩, w4⟩) ve2 hr
end
end DL
namespace DL
open PySem PySem.Spec PyProof.Rows L2
variable {X : Cx} {F : Fr} {s : S}
section
variable {e a b c tg iter elt : Expr} {es rest elts : List Expr} {Φ : E → S → Prop} {Ψ : Bool → S → Prop} {pos p p2 tpos : Pos} {x : Str} {k B kk : Nat} {Θ : Nat → (Nat → E → Prop) → S → Prop}
/-- an owned or frozen list as a test -/
theorem jt_lst (h : JE X F e s fun e1 s1 => ∃ es, s1.node e1 = some (.lst, es) ∧ Ψ (!es.isEmpty) s1) (he : ∀ whole, isTrue e X.env whole = (do let v ← whole; standAt e.pos; holding [v] (truthy v)) := by intro _; rfl) : JT X F e s Ψ :=
  fun as G H σ Q c k => PT.sem (pt_truth (pe_sem X e) he) (h as G H σ _ c fun v as1 G1 H1 e1 s1 c1 x1 ve ⟨es, hn, q⟩ => by
    obtain ⟨ad, ws, rfl, n, we⟩ := c1.node ve hn
    have n : SqL X.K H1 ad ws := n
    refine ⟨_, .inl ⟨ws, n, rfl⟩, ?_⟩
    have hl := Paired.length we
    have e : (!ws.isEmpty) = (!es.isEmpty) := by
      cases ws with
      | nil => cases es with
        | nil => rfl
        | cons => simp at hl
      | cons => cases es with
        | nil => simp at hl
        | cons => rfl
    rw [e]
    exact k _ as1 G1 H1 s1 c1 x1 q)
/-- sorted of a dict's whole numbers -/
theorem je_sortedDI (bx : Bx X B) (g : GlB X "sorted") (h : JE X F a s fun e s1 => ∃ (ks : List Int) (es : List E), s1.node e = some (.dct (ks.map Sum.inl), es) ∧ ks.length < 64 ∧ ∀ ys : List Int, ys.Perm ks → ys.Pairwise (· ≤ ·) → Φ (.d (.nd .lst (ys.map .int))) s1)
    (ns : NoStar a := by intro _ _; rfl) : JE X F (.Call (.Name "sorted" p) [a] [] pos) s Φ :=
  je_of (pe_callB (call_sortedDI bx.calm) g.gl g.mg PyProof.Rows.boot_sorted (pa_cons (pe_sem X a) pa_nil (ns _ _)) (he := ns _ _)) fun as G H σ Q c k => h as G H σ _ c fun v as1 G1 H1 e1 s1 c1 x1 ve ⟨ks, es, h1, h2, h3⟩ => by
    obtain ⟨d, vs, rfl, ⟨n1, n2, od, n3⟩, ves⟩ := c1.node ve h1
    refine ⟨d, _, ks, rfl, .inr ⟨od, n3⟩, by rw [List.map_fst_zip (by omega)], h2, fun ys q hy hs hq => ?_⟩
    have sg : Same G1 (upd G1 q (.lst (ys.map V.int))) := same_new (c1.gnone hq)
    exact k _ as1 _ _ (.d (.nd .lst (ys.map .int))) s1 (c1.addG hq) (x1.trans ⟨List.prefix_refl _, sg⟩) (.nd (SqL.of upd_same) (reps_ints ys)) (h3 ys hy hs)
/-- {x: True}, x a name that holds a whole number; owned -/
theorem jn_dict1 {Θ : Kd → List E → S → Prop} {i j : Nat} {n : Int} {bb : Bool} {pk pv : Pos} (nm : NmR X i x) (hs : nth s.sl i = some (some (.d (.int n)))) (h : Θ (.dct [.inl n]) [.d (.bl bb)] s) : JN X F (.Dict [some (.Name x pk)] [.Constant (.bool bb) j pv] pos) s Θ := fun as G H σ Q c k =>
  PE.sem (pe_disp (pps_cons (pe_var nm.nm nm.vis nm.dbg nm.cdt) pe_bl pps_nil) (by rfl) (by rfl) (fun z => by cases z) (by show 1 ≤ 15; decide)) fun q hq => by
    rw [nth_eq] at hs
    obtain ⟨v, h1, h2⟩ := c.slots i _ hs
    cases h2
    refine ⟨.int n, h1, ?_⟩
    refine ⟨upd_same, [(.inl n, .bl bb)], rfl, by show 1 ≤ 15; decide, ?_⟩
    rw [upd_upd]
    exact k q [.bl bb] as G H (.dct [.inl n]) [.d (.bl bb)] s c (Ext.refl _ _) hq (fun ks z => by cases z; exact ⟨rfl, by simp⟩) (.cons (Rep.bl _) .nil) h
/-- reversed(xs), xs frozen -/
def itB (ds : List D) : Nat → E → Prop := fun i e => ∃ d, ds[ds.length - 1 - i]? = some d ∧ e = .d d
theorem ji_rev (g : GlB X "reversed") (h : JE X F a s fun e s1 => ∃ ds, e = .d (.nd .lst ds) ∧ Θ ds.length (itB ds) s1) (ns : NoStar a := by intro _ _; rfl) : JI X F tg (.Call (.Name "reversed" p) [a] [] pos) s Θ := fun as G H σ R c k =>
  PI.sem (pi_reversed g.gl g.mg (pa_cons (pe_sem X a) pa_nil (ns _ _)) (ns _ _)) (h as G H σ _ c fun v as1 G1 H1 e1 s1 c1 x1 ve ⟨ds, e2, q⟩ => by
    subst e2
    cases ve with
    | @nd l vs _ _ n r =>
      have n : SqL X.K G1 l vs := n
      have hl : vs.length = ds.length := r.length
      refine ⟨l, vs, rfl, (show NodeAt X.K G1 l vs .lst from n).mono c1.sub, k (Itv X.K l vs.length) as1 G1 H1 s1 ds.length (itB ds) c1 x1 ?_ q⟩
      have at_ : ∀ {as' : List Addr} {G' H' : Hp} {σ' : L2.St} {s' : S}, Cz X F as' G' H' σ' s' → Same G1 G' → SqL X.K H' l vs := fun c' x => ((show NodeAt X.K G1 l vs .lst from n).mono x).mono c'.sub
      refine ⟨fun as' G' H' σ' s' c' x => by show vs.length ≤ ds.length; omega, fun i as' G' H' σ' s' hi c' x => ⟨by omega, vs, vs[vs.length - 1 - i]'(by omega), at_ c' x, List.getElem?_eq_getElem _⟩, fun i as' G' H' σ' s' y H2 hi c' x q => ?_, fun i as' G' H' σ' s' y H2 hi c' x q => (by obtain ⟨rfl, _⟩ := q; exact Same.refl _)⟩
      obtain ⟨rfl, q⟩ := q
      obtain ⟨d, h1, h2⟩ := r.get' (q vs (at_ c' x))
      exact ⟨G', .d d, c', ⟨Same.refl _, fun _ _ h => h⟩, Rep.mono x h2, d, by rw [← hl]; exact h1, rfl⟩)
/-- for i, x in enumerate(xs), xs frozen -/
def itE (ds : List D) : Nat → E → Prop := fun i e => ∃ d, ds[i]? = some d ∧ e = .d (.nd .tup [.int i, d])
theorem ji_enum (g : GlB X "enumerate") (h : JE X F a s fun e s1 => ∃ ds, e = .d (.nd .lst ds) ∧ Θ ds.length (itE ds) s1) (ns : NoStar a := by intro _ _; rfl) : JI X F (.Tuple elts kk tpos) (.Call (.Name "enumerate" p) [a] [] pos) s Θ := fun as G H σ R c k =>
  PI.sem (pi_enum g.gl g.mg (pa_cons (pe_sem X a) pa_nil (ns _ _)) (ns _ _)) (h as G H σ _ c fun v as1 G1 H1 e1 s1 c1 x1 ve ⟨ds, e2, q⟩ => by
    subst e2
    cases ve with
    | @nd l vs _ _ n r =>
      have n : SqL X.K G1 l vs := n
      have hl : vs.length = ds.length := r.length
      refine ⟨l, vs, rfl, (show NodeAt X.K G1 l vs .lst from n).mono c1.sub, k (Ite X.K l) as1 G1 H1 s1 ds.length (itE ds) c1 x1 ?_ q⟩
      have at_ : ∀ {as' : List Addr} {G' H' : Hp} {σ' : L2.St} {s' : S}, Cz X F as' G' H' σ' s' → Same G1 G' → SqL X.K H' l vs := fun c' x => ((show NodeAt X.K G1 l vs .lst from n).mono x).mono c'.sub
      refine ⟨fun as' G' H' σ' s' c' x => ⟨vs, at_ c' x, by omega⟩, fun i as' G' H' σ' s' hi c' x => ⟨vs, vs[i]'(by omega), at_ c' x, List.getElem?_eq_getElem _⟩, fun i as' G' H' σ' s' y H2 hi c' x q => ?_, fun i as' G' H' σ' s' y H2 hi c' x q => ?_⟩
      · obtain ⟨T, u, rfl, hT, rfl, g1⟩ := q
        obtain ⟨d, e1, e2⟩ := r.get' (g1 vs (at_ c' x))
        have sg : Same G' (upd G' T (.tup [.int i, u])) := same_new (c'.gnone hT)
        refine ⟨upd G' T (.tup [.int i, u]), .d (.nd .tup [.int i, d]), c'.addG hT, ⟨sg, fun b0 hb hg => ?_⟩, ?_, d, e1, rfl⟩
        · rw [upd_ne (fun z => hb (by rw [z]; exact hT))]; exact hg
        · exact .nd (k := .tup) (SqT.of upd_same) (.cons (.int _) (.cons ((e2.mono x).mono sg) .nil))
      · obtain ⟨T, u, rfl, hT, rfl, g1⟩ := q
        exact same_new hT)
end
/-! ### comprehensions with a target of three names over a list of triples -/
def gP3 (K : PySem.W.Frag) (j1 j2 j3 : Nat) : TG := gTup K 3 (gCons (gName j1) (gCons (gName j2) (gCons (gName j3) gNil)))
def S.blk3 (s : S) (vs : List Nat) (acc : List E) (j1 : Nat) (v1 : E) (j2 : Nat) (v2 : E) (j3 : Nat) (v3 : E) : S := ((((s.wipe vs).push .lst acc).set j1 v1).set j2 v2).set j3 v3
section
variable {elt iter : Expr} {scope : Scope} {own : List (Str × Nat)} {pos p1 p2 p3 tp : Pos} {x1 x2 x3 : Str} {j1 j2 j3 kk B : Nat}
theorem pg_B3 (bx : Bx X B) (hn1 : ∀ Y, IsBlk X scope Y → NmW Y j1 x1) (hn2 : ∀ Y, IsBlk X scope Y → NmW Y j2 x2) (hn3 : ∀ Y, IsBlk X scope Y → NmW Y j3 x3) (st : Shared) (H : Hp) (C : Addr) (cl : List (Str × Addr)) (fp : List Addr) :
    PG (X.blk st H scope (compEnvC scope cl C X.env) fp) (.Tuple [.Name x1 p1, .Name x2 p2, .Name x3 p3] kk tp) (gP3 X.K j1 j2 j3) := by
  have m1 := hn1 _ ⟨st, H, C, cl, fp, rfl⟩
  have m2 := hn2 _ ⟨st, H, C, cl, fp, rfl⟩
  have m3 := hn3 _ ⟨st, H, C, cl, fp, rfl⟩
  exact pg_tup (n := 3) bx.calm (pgs_cons (pg_name m1.nd m1.nm m1.loc m1.hf) (pgs_cons (pg_name m2.nd m2.nm m2.loc m2.hf) (pgs_cons (pg_name m3.nd m3.nm m3.loc m3.hf) pgs_nil)))
/-- a frozen list of triples, the element pure -/
def Lc3 (X : Cx) (F : Fr) (tg iter elt : Expr) (scope : Scope) (vs : List Nat) (j1 j2 j3 : Nat) (s : S) (Θ : List D → Prop) : Prop :=
  JI X F tg iter s fun n it s1 => s1 = s ∧ n ≤ 16000000 ∧ ∃ (t : Nat → D × D × D) (f : Nat → D), (∀ i e, i < n → it i e → e = .d (.nd .tup [(t i).1, (t i).2.1, (t i).2.2])) ∧
    (∀ i acc, i < n → ∀ Y, IsBlk X scope Y → JE Y F elt (s.blk3 vs acc j1 (.d (t i).1) j2 (.d (t i).2.1) j3 (.d (t i).2.2)) fun y s3 => y = .d (f i) ∧ s3 = s.blk3 vs acc j1 (.d (t i).1) j2 (.d (t i).2.1) j3 (.d (t i).2.2)) ∧ Θ ((List.range n).map f)
theorem lc3_read {Θ : List D → Prop} (hj1 : j1 ∈ own.map (·.2)) (hj2 : j2 ∈ own.map (·.2)) (hj3 : j3 ∈ own.map (·.2)) {tg : Expr} (h : Lc3 X F tg iter elt scope (own.map (·.2)) j1 j2 j3 s Θ) :
    ∀ as G H σ (Q : VK), Cz X F as G H σ s → (∀ v as' G' H' ds, Cz X F as' G' H' σ (s.push .lst (ds.map .d)) → Ext as as' G G' → VE X.K G' as' v (.r s.ce.length) → Θ ds → Q v H') → tLc (semI X tg iter) (gP3 X.K j1 j2 j3) (ttB X scope []) (teB X scope elt) (own.map (·.2)) σ H Q := by
  refine fun as G H σ Q c k => h as G H σ _ c fun J as1 G1 H1 s1 n it c1 x1 okJ ⟨q1, q2, t, f, q3, q4, q5⟩ => ?_
  subst q1
  intro D hD
  have c1' := (c1.wipe (own.map (·.2))).addO (kd := .lst) (o := .lst []) (vs := []) (es := []) hD upd_same .nil
  have hk : s1.ce.length = as1.length := c1.len.symm
  refine ⟨fun i m H' => m = n - i ∧ i ≤ n ∧ ∃ as' G', Cz X F as' G' H' (wipe σ (own.map (·.2))) ((s1.wipe (own.map (·.2))).push .lst (((List.range i).map f).map .d)) ∧ as1 ++ [D] <+: as' ∧ Same G1 G', ⟨n, by simp, Nat.zero_le _, _, _, c1', List.prefix_refl _, Same.refl _⟩, ?_⟩
  rintro i m H' ⟨rfl, hi, as', G', c', pr, sg⟩
  have prD : as'[s1.ce.length]? = some D := pre_get pr (by rw [hk, List.getElem?_append_right (Nat.le_refl _)]; simp)
  by_cases hlt : i < n
  · refine .inr ⟨okJ.go i as' G' H' _ _ hlt c' sg, fun H2 => ∃ as' G', Cz X F as' G' H2 (wipe σ (own.map (·.2))) ((s1.wipe (own.map (·.2))).push .lst (((List.range (i + 1)).map f).map .d)) ∧ as1 ++ [D] <+: as' ∧ Same G1 G', fun H2 ⟨as2, G2, c2, p2, g2⟩ => ⟨n - (i + 1), by omega, rfl, hlt, as2, G2, c2, p2, g2⟩, fun v H2 y => ?_⟩
    obtain ⟨G2, e, c2, ⟨x2, _⟩, ve, hit⟩ := okJ.yld i as' G' H' _ _ v H2 hlt c' sg y
    have he := q3 i e hlt hit
    have q4 := q4 i (((List.range i).map f).map .d) hlt
    subst he
    generalize t i = ti at q4 ve
    obtain ⟨d1, d2, d3⟩ := ti
    dsimp only at q4 ve
    cases ve with
    | @nd a us _ _ nn rr =>
      cases rr with
      | @cons v1 _ _ _ r1 rr =>
        cases rr with
        | @cons v2 _ _ _ r2 rr =>
          cases rr with
          | @cons v3 _ _ _ r3 rr =>
            cases rr
            have c3 := ((c2.set (i := j1) (e := .d d1) r1).set (i := j2) (e := .d d2) r2).set (i := j3) (e := .d d3) r3
            have ws : wipe ((((wipe σ (own.map (·.2))).set j1 (some v1)).set j2 (some v2)).set j3 (some v3)) (own.map (·.2)) = wipe σ (own.map (·.2)) := wipe_same (by rw [List.length_set, List.length_set, List.length_set, wipe_length]) fun l hl => by
              rw [List.getElem?_set_ne (fun z => hl (by rw [← z]; exact hj3)), List.getElem?_set_ne (fun z => hl (by rw [← z]; exact hj2)), List.getElem?_set_ne (fun z => hl (by rw [← z]; exact hj1)), wipe_out' hl]
            refine ⟨a, [v1, v2, v3], rfl, (show NodeAt X.K G2 a [v1, v2, v3] .tup from nn).mono c2.sub, rfl, v1, [v2, v3], rfl, v2, [v3], rfl, v3, [], rfl, rfl, ws, ?_⟩
            refine fun Y hY pins st I => jts_run (F := F) (ifs := []) (Ψ := fun b s2 => b = true ∧ s2 = s1.blk3 (own.map (·.2)) (((List.range i).map f).map .d) j1 (.d d1) j2 (.d d2) j3 (.d d3)) ⟨rfl, rfl⟩ (cz_blk hY c3) (fun b as4 G4 H4 s4 c4 x4 ⟨qb, qs⟩ => ?_) pins st I
            subst qb qs
            simp only [if_true]
            refine fun Y2 hY2 => q4 Y2 hY2 as4 G4 H4 _ _ (cz_blk hY2 (cz_ublk hY c4)) fun y as5 G5 H5 y' s5 c5 x5 ve5 ⟨w1, w2⟩ => ?_
            subst w1 w2
            have c5 := cz_ublk hY2 c5
            rw [hY2.K] at ve5
            have p5 : as1 ++ [D] <+: as5 := (pr.trans x4.pre).trans x5.pre
            have prD5 : as5[s1.ce.length]? = some D := pre_get p5 (by rw [hk, List.getElem?_append_right (Nat.le_refl _)]; simp)
            have hce : (s1.blk3 (own.map (·.2)) (((List.range i).map f).map .d) j1 (.d d1) j2 (.d d2) j3 (.d d3)).ce[s1.ce.length]? = some (.nd .lst (((List.range i).map f).map .d)) := by
              show (s1.ce ++ [Cell.nd .lst _])[s1.ce.length]? = _
              rw [List.getElem?_append_right (Nat.le_refl _)]; simp
            obtain ⟨b, ws5, y1, y2, y3⟩ := c5.cells _ _ _ hce
            rw [prD5] at y1
            cases y1
            have y2' : H5 D = some (.lst ws5) := y2
            have hl := Paired.length y3
            refine ⟨ws5, y2', by rw [hl, List.length_map, List.length_map, List.length_range, sizeLine_eq]; omega, ?_⟩
            have c6 := (c5.put (kd := .lst) (es := ((List.range i).map f).map .d ++ [.d (f i)]) (o := .lst (ws5 ++ [y])) hce prD5 upd_same (y3.snoc ve5)).wipe (own.map (·.2))
            rw [ws] at c6
            have eS : ((s1.blk3 (own.map (·.2)) (((List.range i).map f).map .d) j1 (.d d1) j2 (.d d2) j3 (.d d3)).put s1.ce.length .lst (((List.range i).map f).map .d ++ [.d (f i)])).wipe (own.map (·.2)) = (s1.wipe (own.map (·.2))).push .lst (((List.range (i + 1)).map f).map .d) := by
              show ((((((s1.wipe (own.map (·.2))).push .lst (((List.range i).map f).map .d)).put s1.ce.length .lst (((List.range i).map f).map .d ++ [.d (f i)])).set j1 (.d d1)).set j2 (.d d2)).set j3 (.d d3)).wipe (own.map (·.2)) = _
              rw [set_wipe hj3, set_wipe hj2, set_wipe hj1, push_put, push_wipe, List.range_succ]
              simp
            rw [eS] at c6
            exact ⟨as5, G5, c6, p5, ((sg.trans x2).trans x4.sub).trans x5.sub⟩
  · have e : i = n := by omega
    subst e
    refine .inl ⟨okJ.stop as' G' H' _ _ c' sg, ?_⟩
    have x : Ext as1 as' G1 G' := ⟨pre_snoc.trans pr, sg⟩
    exact k _ as' G' H' _ (c1.back c' x) (x1.trans x) ⟨D, prD, rfl⟩ q5
/-- .. owned -/
theorem je_lc3 {Φ : E → S → Prop} (bx : Bx X B) (ok : BlkOk X.N X.env.scope scope own) (hj1 : j1 ∈ own.map (·.2)) (hj2 : j2 ∈ own.map (·.2)) (hj3 : j3 ∈ own.map (·.2)) (hn1 : ∀ Y, IsBlk X scope Y → NmW Y j1 x1) (hn2 : ∀ Y, IsBlk X scope Y → NmW Y j2 x2) (hn3 : ∀ Y, IsBlk X scope Y → NmW Y j3 x3)
    (h : Lc3 X F (.Tuple [.Name x1 p1, .Name x2 p2, .Name x3 p3] kk tp) iter elt scope (own.map (·.2)) j1 j2 j3 s fun ds => Φ (.r s.ce.length) (s.push .lst (ds.map .d)))
    (hs : ∀ x, foldedSetIterable iter X.env x = pure x := by intro _; rfl) : JE X F (.ListComp elt [⟨.Tuple [.Name x1 p1, .Name x2 p2, .Name x3 p3] kk tp, iter, [], 0⟩] scope pos) s Φ :=
  je_of (pe_lc bx.calm bx.nd (pi_sem X _ iter) ok (pg_B3 bx hn1 hn2 hn3) pts_B pe_B hs) fun as G H σ Q c k => lc3_read hj1 hj2 hj3 h as G H σ Q c fun v as' G' H' ds c' x' ve q => k v as' G' H' _ _ c' x' ve q
end
/-! ### == of simple values -/
inductive Vv where
  | n | i (z : Int) | a | t | y
deriving DecidableEq
abbrev vvD : Vv → D
  | .n => .non
  | .i z => .int z
  | .a => .str "l1"
  | .t => .nd .tup [.str "l1", .str "l2"]
  | .y => .str "none yet"
def vvP : Vv → PyData
  | .n => .none
  | .i z => .int z
  | .a => .str "l1"
  | .t => .tuple [.str "l1", .str "l2"]
  | .y => .str "none yet"
theorem vvD_imm : ∀ (a : Vv), (vvD a).imm = true
  | .n => rfl
  | .i _ => rfl
  | .a => rfl
  | .t => rfl
  | .y => rfl
theorem dp_vvD {K : PySem.W.Frag} {G H : Hp} {as : List Addr} {v : V} {x : Vv} (sg : Same G H) (ve : VE K G as v (.d (vvD x))) : L2.Dp K H v (vvP x) := by
  have ve : Rep K G v (vvD x) := ve
  cases x with
  | n => cases ve; exact .non
  | i z => cases ve; exact .int z
  | a => cases ve; exact .str _
  | y => cases ve; exact .str _
  | t =>
    cases ve with
    | nd n r =>
      cases r with
      | cons a r =>
        cases r with
        | cons b r =>
          cases r
          cases a
          cases b
          exact .tup (n.mono sg) (.cons (.str _) (.cons (.str _) .nil))
theorem shaped_vvP : ∀ (x : Vv), SeqAt.shaped (vvP x) = true
  | .n => rfl
  | .i _ => rfl
  | .a => by decide +kernel
  | .t => by decide +kernel
  | .y => by decide +kernel
theorem eqv_vvP : ∀ (x y : Vv), PyData.eqv (vvP x) (vvP y) = decide (x = y)
  | .n, .n => rfl
  | .i a, .i b => by
    show (a == b) = _
    by_cases h : a = b
    · subst h; simp
    · rw [decide_eq_false (fun z => h (by cases z; rfl))]; simpa using h
  | .a, .a => by decide +kernel
  | .a, .y => by decide +kernel
  | .y, .a => by decide +kernel
  | .y, .y => by decide +kernel
  | .t, .t => by decide +kernel
  | .n, .i _ => rfl
  | .n, .a => rfl
  | .n, .t => rfl
  | .n, .y => rfl
  | .i _, .n => rfl
  | .i _, .a => rfl
  | .i _, .t => rfl
  | .i _, .y => rfl
  | .a, .n => rfl
  | .a, .i _ => rfl
  | .a, .t => rfl
  | .t, .n => rfl
  | .t, .i _ => rfl
  | .t, .a => rfl
  | .t, .y => rfl
  | .y, .n => rfl
  | .y, .i _ => rfl
  | .y, .t => rfl
theorem jr_eqV {B : Nat} {x y : Vv} {Φ : E → S → Prop} (bx : Bx X B) (q : Φ (.d (.bl (decide (x = y)))) s) : JR X F (compareOp .Eq) (.d (vvD x)) (.d (vvD y)) s Φ :=
  jr_of (op_eqD bx.room.units) fun as G H σ v w Q c v1 v2 k =>
    ⟨_, _, dp_vvD c.sub v1, dp_vvD c.sub v2, shaped_vvP _, shaped_vvP _, by rw [eqv_vvP]; exact k _ as G H _ s c (Ext.refl _ _) (Rep.bl _) q⟩
end DL
namespace DL
open PySem PySem.Spec PyProof.Rows L2
variable {X : Cx} {F : Fr} {s : S}
/-! ### calls with cells that go along, the rest kept in one piece (it is not to be unfolded) -/
def CalQ (R : RS) (s1 : S) (vs : List E) (Φ : E → S → Prop) : Prop := ∃ js ce es0, Goes s1 js ce ∧ vs = es0.map (E.ren (jsF js s1.ce.length)) ∧ es0.all (E.lt js.length) = true ∧ R ce es0 fun e ce' => Φ (e.ren (jsF js s1.ce.length)) (s1.back js ce')
section
variable {a o : Expr} {es : List Expr} {Φ : E → S → Prop} {pos p apos : Pos} {x m : Str} {k B : Nat} {C : Addr} {R : RS}
theorem je_callQ (cb : CbS X x k R) (bx : Bx X B) (hB : k ≤ B) (h : JA X F (a :: es) s fun vs s1 => CalQ R s1 vs Φ) (hdb : (x == ("__debug__" : Str)) = false := by decide)
    (he : starEach (a :: es) X.env = (false, eval a X.env) :: starEach es X.env := by rfl) (hpl : (backTo pos (starEach es X.env)).any (·.1) = false := by rfl) : JE X F (.Call (.Name x p) (a :: es) [] pos) s Φ := je_callS cb bx hB h hdb he hpl
theorem je_methQ {pl : Sem Bool} (cb : CbHS X C m k R) (bx : Bx X B) (hB : k ≤ B)
    (h : JE X F o s fun eo s1 => ∃ fs es', s1.node eo = some (.ins C fs, es') ∧ ixF fs m = none ∧ JA X F (a :: es) s1 fun vs s2 => CalQ R s2 (eo :: vs) Φ)
    (hev : MthEv X o m (a :: es) pos apos pl) (he : starEach (a :: es) X.env = (false, eval a X.env) :: starEach es X.env := by rfl) (hpl : (backTo pos (starEach es X.env)).any (·.1) = false := by rfl) : JE X F (.Call (.Attribute o m apos) (a :: es) [] pos) s Φ := je_methS cb bx hB h hev he hpl
end
theorem ren_l (f : Nat → Nat) (ds : List D) : Cell.ren f (.nd .lst (ds.map E.d)) = .nd .lst (ds.map E.d) := by show Cell.nd .lst ((ds.map E.d).map _) = _; rw [ren_map]
theorem lt_nth {k : Nat} {c : Cell} (h : nth s.ce k = some c) : k < s.ce.length := by rw [nth_eq] at h; exact (List.getElem?_eq_some_iff.mp h).1
end DL
namespace W
open PySem PySem.Spec PyProof.Rows L2 DL
def top (i : Nat) : Stmt := PySem.Challenge.pw_networth_k79_facts_with_spans.main.body.getD i (.Pass ⟨0, 0, 0, 0⟩)
abbrev s_holds : Stmt := top 1
def N_holds : List Str := ["first", "last", "period"]
theorem sc_holds : FnScope N_holds ["first", "last", "period"] (defScope s_holds) := ⟨rfl, rfl, rfl, by decide +kernel, rfl, by decide +kernel, by decide +kernel⟩
abbrev s_starts : Stmt := top 2
def N_starts : List Str := ["spans", "first", "last", "found", "one", "other"]
theorem sc_starts : FnScope N_starts ["spans", "first", "last"] (defScope s_starts) := ⟨rfl, rfl, rfl, by decide +kernel, rfl, by decide +kernel, by decide +kernel⟩
abbrev s_ends : Stmt := top 3
def N_ends : List Str := ["begun", "last", "found", "at", "start"]
theorem sc_ends : FnScope N_ends ["begun", "last"] (defScope s_ends) := ⟨rfl, rfl, rfl, by decide +kernel, rfl, by decide +kernel, by decide +kernel⟩
abbrev s_Facts___init__ : Stmt := inClass (top 4) 0
def N_Facts___init__ : List Str := ["self", "default"]
theorem sc_Facts___init__ : FnScope N_Facts___init__ ["self", "default"] (defScope s_Facts___init__) := ⟨rfl, rfl, rfl, by decide +kernel, rfl, by decide +kernel, by decide +kernel⟩
abbrev s_Facts_tell : Stmt := inClass (top 4) 1
def N_Facts_tell : List Str := ["self", "first", "last", "value"]
theorem sc_Facts_tell : FnScope N_Facts_tell ["self", "first", "last", "value"] (defScope s_Facts_tell) := ⟨rfl, rfl, rfl, by decide +kernel, rfl, by decide +kernel, by decide +kernel⟩
abbrev s_Facts_at : Stmt := inClass (top 4) 2
def N_Facts_at : List Str := ["self", "period", "first", "last", "value"]
theorem sc_Facts_at : FnScope N_Facts_at ["self", "period"] (defScope s_Facts_at) := ⟨rfl, rfl, rfl, by decide +kernel, rfl, by decide +kernel, by decide +kernel⟩
abbrev s_Facts_spans : Stmt := inClass (top 4) 3
def N_Facts_spans : List Str := ["self", "first", "last", "_"]
theorem sc_Facts_spans : FnScope N_Facts_spans ["self"] (defScope s_Facts_spans) := ⟨rfl, rfl, rfl, by decide +kernel, rfl, by decide +kernel, by decide +kernel⟩
abbrev s_Facts_pieces : Stmt := inClass (top 4) 4
def N_Facts_pieces : List Str := ["self", "first", "last", "found", "start", "end", "value"]
theorem sc_Facts_pieces : FnScope N_Facts_pieces ["self", "first", "last"] (defScope s_Facts_pieces) := ⟨rfl, rfl, rfl, by decide +kernel, rfl, by decide +kernel, by decide +kernel⟩
abbrev s_law_mixed : Stmt := top 6
def N_law_mixed : List Str := ["number", "place", "first", "second", "third"]
theorem sc_law_mixed : FnScope N_law_mixed ["number", "place"] (defScope s_law_mixed) := ⟨rfl, rfl, rfl, by decide +kernel, rfl, by decide +kernel, by decide +kernel⟩
abbrev s_law_rest : Stmt := top 7
def N_law_rest : List Str := ["script", "place", "fills", "number"]
theorem sc_law_rest : FnScope N_law_rest ["script", "place", "fills"] (defScope s_law_rest) := ⟨rfl, rfl, rfl, by decide +kernel, rfl, by decide +kernel, by decide +kernel⟩
abbrev s_law_pool : Stmt := top 8
def N_law_pool : List Str := ["script"]
theorem sc_law_pool : FnScope N_law_pool ["script"] (defScope s_law_pool) := ⟨rfl, rfl, rfl, by decide +kernel, rfl, by decide +kernel, by decide +kernel⟩
abbrev s_law_next : Stmt := top 9
def N_law_next : List Str := ["pool"]
theorem sc_law_next : FnScope N_law_next ["pool"] (defScope s_law_next) := ⟨rfl, rfl, rfl, by decide +kernel, rfl, by decide +kernel, by decide +kernel⟩
abbrev s_law_draw : Stmt := top 10
def N_law_draw : List Str := ["pool", "limit", "value"]
theorem sc_law_draw : FnScope N_law_draw ["pool", "limit"] (defScope s_law_draw) := ⟨rfl, rfl, rfl, by decide +kernel, rfl, by decide +kernel, by decide +kernel⟩
abbrev s_law_pick : Stmt := top 11
def N_law_pick : List Str := ["pool", "options"]
theorem sc_law_pick : FnScope N_law_pick ["pool", "options"] (defScope s_law_pick) := ⟨rfl, rfl, rfl, by decide +kernel, rfl, by decide +kernel, by decide +kernel⟩
abbrev s_law_same : Stmt := top 12
def N_law_same : List Str := ["answer", "due", "key", "k"]
theorem sc_law_same : FnScope N_law_same ["answer", "due"] (defScope s_law_same) := ⟨rfl, rfl, rfl, by decide +kernel, rfl, by decide +kernel, by decide +kernel⟩
abbrev s_law_is_int : Stmt := top 13
def N_law_is_int : List Str := ["value"]
theorem sc_law_is_int : FnScope N_law_is_int ["value"] (defScope s_law_is_int) := ⟨rfl, rfl, rfl, by decide +kernel, rfl, by decide +kernel, by decide +kernel⟩
abbrev s_law_holds : Stmt := top 14
def N_law_holds : List Str := ["first", "last", "period"]
theorem sc_law_holds : FnScope N_law_holds ["first", "last", "period"] (defScope s_law_holds) := ⟨rfl, rfl, rfl, by decide +kernel, rfl, by decide +kernel, by decide +kernel⟩
abbrev s_law_span : Stmt := top 15
def N_law_span : List Str := ["pool", "first", "way"]
theorem sc_law_span : FnScope N_law_span ["pool"] (defScope s_law_span) := ⟨rfl, rfl, rfl, by decide +kernel, rfl, by decide +kernel, by decide +kernel⟩
abbrev s_law_value : Stmt := top 16
def N_law_value : List Str := ["rows", "period", "default", "found", "first", "last", "value"]
theorem sc_law_value : FnScope N_law_value ["rows", "period", "default"] (defScope s_law_value) := ⟨rfl, rfl, rfl, by decide +kernel, rfl, by decide +kernel, by decide +kernel⟩
abbrev s_law_periods : Stmt := top 17
def N_law_periods : List Str := ["rows", "first", "last", "found", "one", "other", "value", "period"]
theorem sc_law_periods : FnScope N_law_periods ["rows", "first", "last"] (defScope s_law_periods) := ⟨rfl, rfl, rfl, by decide +kernel, rfl, by decide +kernel, by decide +kernel⟩
abbrev s_law_pieces_right : Stmt := top 18
def N_law_pieces_right : List Str := ["told", "rows", "default", "first", "last", "start", "at", "piece", "period"]
theorem sc_law_pieces_right : FnScope N_law_pieces_right ["told", "rows", "default", "first", "last"] (defScope s_law_pieces_right) := ⟨rfl, rfl, rfl, by decide +kernel, rfl, by decide +kernel, by decide +kernel⟩
abbrev s_law_asked : Stmt := top 19
def N_law_asked : List Str := ["pool", "facts", "rows", "default", "period", "first", "last", "told"]
theorem sc_law_asked : FnScope N_law_asked ["pool", "facts", "rows", "default"] (defScope s_law_asked) := ⟨rfl, rfl, rfl, by decide +kernel, rfl, by decide +kernel, by decide +kernel⟩
abbrev s_law : Stmt := top 20
def N_law : List Str := ["script", "pool", "values", "defaults", "both", "rows", "deed", "at", "first", "last", "value"]
theorem sc_law : FnScope N_law ["script"] (defScope s_law) := ⟨rfl, rfl, rfl, by decide +kernel, rfl, by decide +kernel, by decide +kernel⟩
local macro_rules | `(tactic| walk_at "pd") => `(tactic| ((with_reducible refine' je_callPd ?zn ?zb ?zk ?_ ?z1 ?z2 ?z3); (case zn => with_reducible assumption); (case zb => with_reducible assumption); (case zk => first | exact Nat.le_refl _ | decide); (case z1 => decide); (case z2 => rfl); (case z3 => rfl)))
local macro_rules | `(tactic| walk_at "vw") => `(tactic| first
  | (with_reducible refine' vk_nil ?_)
  | (with_reducible refine' vk_d ?_)
  | ((with_reducible refine' vk_l ?z1 ?z2 ?_); (case z1 => rfl); (first | (case z2 => exact dsOf_map _) | (case z2 => rfl) | rotate_left))
  | ((with_reducible refine' vk_k ?z1 ?z2 ?_); (case z1 => rfl); (first | (case z2 => exact dsOf_map _) | (case z2 => rfl) | rotate_left)))
local macro_rules | `(tactic| walk_at "cb") => `(tactic| ((with_reducible refine' je_callB ?zn ?zb ?zk ?_ ?z1 ?z2 ?z3); (case zn => with_reducible assumption); (case zb => with_reducible assumption); (case zk => first | exact Nat.le_refl _ | decide); (case z1 => decide); (case z2 => rfl); (case z3 => rfl)))
local macro_rules | `(tactic| walk_at "bd") => `(tactic| first | omega | decide | (constructor <;> omega) | (left; constructor <;> omega) | (right; constructor <;> omega))
local macro_rules | `(tactic| walk_at "je") => `(tactic| first
  | ((with_reducible refine' je_name ?zn ?zh ?zq); (case zn => with_reducible assumption); (case zh => rfl))
  | (with_reducible refine' je_int ?_)
  | (with_reducible refine' je_str ?_)
  | (with_reducible refine' je_bin ?_)
  | ((with_reducible refine' je_sub ?_ ?zs); (case zs => intro _ _; rfl))
  | (with_reducible refine' je_sliceS ?_)
  | ((with_reducible refine' je_cmp ?_ ?zs); (case zs => rfl))
  | ((with_reducible refine' je_get2 ?zb ?_ ?zm); (case zb => with_reducible assumption); (case zm => exact ⟨rfl, rfl, rfl, rfl⟩))
  | ((with_reducible refine' je_gcd ?zg ?_ ?z1 ?z2 ?z3); (case zg => with_reducible assumption); (case z1 => decide); (case z2 => intro _ _; rfl); (case z3 => intro _ _; rfl))
  | ((with_reducible refine' je_listD ?zg ?_ ?zs); (case zg => with_reducible assumption); (case zs => intro _ _; rfl))
  | ((with_reducible refine' je_dictD ?zg ?_ ?zs); (case zg => with_reducible assumption); (case zs => intro _ _; rfl))
  | ((with_reducible refine' je_callNK ?zn ?zb ?zk ?zm ?_ ?z1 ?z2 ?z3); (case zn => with_reducible assumption); (case zb => with_reducible assumption); (case zk => first | exact Nat.le_refl _ | decide); (case zm => assumption); (case z1 => decide); (case z2 => rfl); (case z3 => rfl))
  | (with_reducible refine' je_tup ?_)
  | (with_reducible refine' je_lst ?_)
  | ((with_reducible refine' je_len ?zg ?_ ?zs); (case zg => with_reducible assumption); (case zs => intro _ _; rfl))
  | ((with_reducible refine' je_intc ?zg ?_ ?zs); (case zg => with_reducible assumption); (case zs => intro _ _; rfl))
  | ((with_reducible refine' je_abs ?zg ?_ ?zs); (case zg => with_reducible assumption); (case zs => intro _ _; rfl))
  | ((with_reducible refine' je_stri ?zg ?_ ?zs); (case zg => with_reducible assumption); (case zs => intro _ _; rfl))
  | (with_reducible refine' je_bl ?_)
  | ((with_reducible refine' je_isi ?zg ?zt ?zv ?_ ?z1 ?z2 ?z3); (case zg => with_reducible assumption); (case zt => with_reducible assumption); (case zv => first | exact PyProof.Rows.boot_dict | exact PyProof.Rows.boot_list | exact PyProof.Rows.boot_tuple | exact PyProof.Rows.boot_str | exact PyProof.Rows.boot_int | exact PyProof.Rows.boot_bool); (case z1 => decide); (case z2 => decide); (case z3 => intro _ _; rfl))
  | (with_reducible refine' je_non ?_)
  | ((with_reducible refine' je_glob ?zn ?zq); (case zn => with_reducible assumption))
  | ((with_reducible refine' je_chain ?_ ?zs); (case zs => with_unfolding_all rfl))
  | (with_reducible refine' je_not ?_)
  | (with_reducible refine' je_un ?_)
  | (with_reducible refine' je_one ?_)
  | (with_reducible refine' je_and ?_)
  | (with_reducible refine' je_or ?_)
  | (with_reducible refine' je_ife ?_)
  | ((with_reducible refine' je_callX ?zn ?zb ?zk ?_ ?z1 ?z2 ?z3); (case zn => with_reducible assumption); (case zb => with_reducible assumption); (case zk => first | exact Nat.le_refl _ | decide); (case z1 => decide); (case z2 => rfl); (case z3 => rfl))
  | ((with_reducible refine' je_callC ?zn ?zb ?zk ?_ ?z1 ?z2 ?z3); (case zn => with_reducible assumption); (case zb => with_reducible assumption); (case zk => first | exact Nat.le_refl _ | decide); (case z1 => decide); (case z2 => rfl); (case z3 => rfl)))
local macro_rules | `(tactic| walk_at "jr") => `(tactic| first
  | (with_reducible refine' jr_add ?_)
  | (with_reducible refine' jr_sub ?_)
  | ((with_reducible refine' jr_mod ?zc ?_); (first | (case zc => assumption) | (case zc => omega) | (case zc => assumption) | rotate_left))
  | ((with_reducible refine' jr_mulS ?z1 ?z2 ?_); (first | (case z1 => decide) | rotate_left); (first | (case z2 => constructor <;> omega) | rotate_left))
  | ((with_reducible refine' jr_mul ?zc ?_); (first | (case zc => assumption) | (case zc => left; first | (left; omega) | (right; omega)) | (case zc => right; exact wide_mul (a := 128) (b := 128) (by omega) (by omega) (by decide) (by decide) (by decide)) | rotate_left))
  | ((with_reducible refine' jr_fdiv ?zc ?_); (first | (case zc => assumption) | (case zc => left; constructor <;> omega) | rotate_left))
  | ((with_reducible refine' jr_pow ?zc ?_); (case zc => exact ⟨by decide, by decide, by decide⟩))
  | (with_reducible refine' jr_lt ?_)
  | (with_reducible refine' jr_le ?_)
  | (with_reducible refine' jr_gt ?_)
  | (with_reducible refine' jr_ge ?_)
  | ((with_reducible refine' jr_eqQ ?zb ?_); (case zb => with_reducible assumption))
  | ((with_reducible refine' jr_neQ ?zb ?_); (case zb => with_reducible assumption))
  | ((with_reducible refine' jr_inStrs ?zh ?zk ?_); (case zh => rfl); (case zk => first | exact Or.inl rfl | exact Or.inr rfl))
  | ((with_reducible refine' jr_ninStrs ?zh ?zk ?_); (case zh => rfl); (case zk => first | exact Or.inl rfl | exact Or.inr rfl))
  | (with_reducible refine' jr_eqiS ?_)
  | (with_reducible refine' jr_eqsS ?_)
  | (with_reducible refine' jr_eqbS ?_)
  | (with_reducible refine' jr_nebS ?_)
  | (with_reducible refine' jr_eqi ?_)
  | (with_reducible refine' jr_nei ?_)
  | (with_reducible refine' jr_eqs ?_)
  | (with_reducible refine' jr_nes ?_)
  | (with_reducible refine' jr_eqb ?_)
  | (with_reducible refine' jr_neb ?_)
  | ((with_reducible refine' jr_isNF ?zh ?_); (case zh => rfl))
  | ((with_reducible refine' jr_isNT ?zh ?_); (case zh => rfl))
  | ((with_reducible refine' jr_notNF ?zh ?_); (case zh => rfl))
  | ((with_reducible refine' jr_notNT ?zh ?_); (case zh => rfl))
  | ((with_reducible refine' jr_isF ?zh ?_); (case zh => rfl))
  | ((with_reducible refine' jr_isT ?zh ?_); (case zh => rfl))
  | ((with_reducible refine' jr_inD ?zb ?zh ?zk ?_); (case zb => with_reducible assumption); (case zh => rfl); (first | (case zk => rfl) | (case zk => with_reducible assumption) | rotate_left))
  | ((with_reducible refine' jr_ninD ?zb ?zh ?zk ?_); (case zb => with_reducible assumption); (case zh => rfl); (first | (case zk => rfl) | (case zk => with_reducible assumption) | rotate_left))
  | ((with_reducible refine' jr_adds ?zc ?_); (first | (case zc => assumption) | rotate_left)))
local macro_rules | `(tactic| walk_at "jx") => `(tactic|
  ((with_reducible refine' jx_seq ?zh ?zk ?za ?zq); (case zh => rfl); (case zk => first | exact Or.inl rfl | exact Or.inr rfl); (case za => rfl)))
local macro_rules | `(tactic| walk_at "jv") => `(tactic| first
  | (with_reducible refine' jv_int_i ?_)
  | (with_reducible refine' jv_int_b ?_)
  | ((with_reducible refine' jv_len_str ?zh ?zq); (first | (case zh => assumption) | rotate_left))
  | ((with_reducible refine' jv_len_nd ?zh ?zk ?zq); (case zh => rfl); (case zk => intro _ _ z; cases z)))
local macro_rules | `(tactic| walk_at "jt") => `(tactic| first
  | (with_reducible refine' jt_not ?_)
  | ((with_reducible refine' jt_cmp ?_ ?zs); (case zs => rfl))
  | ((with_reducible refine' jt_chain ?_ ?zs); (case zs => with_unfolding_all rfl))
  | (with_reducible refine' jt_w (jw_and ?_))
  | (with_reducible refine' jt_w (jw_or ?_))
  | ((with_reducible refine' jt_val ?_ ?zs); (case zs => intro _; rfl)))
local macro_rules | `(tactic| walk_at "js") => `(tactic| first
  | ((with_reducible refine' jss_set ?zn ?_ ?zs); (case zn => with_reducible assumption); (case zs => rfl))
  | (with_reducible refine' jss_ret ?_)
  | (with_reducible refine' jss_ifr ?_)
  | (with_reducible refine' jss_ifbr ?_)
  | (with_reducible refine' jss_if1 ?_)
  | ((with_reducible refine' jss_ifL ?zl ?_); (case zl => rfl))
  | (with_reducible refine' jss_nilT ?_)
  | (with_reducible refine' jss_nil ?_)
  | (with_reducible refine' jss_retN ?_)
  | (with_reducible refine' jss_break ?_)
  | (with_reducible refine' jss_cont ?_)
  | (with_reducible refine' jss_doc ?_)
  | ((with_reducible refine' jss_expr ?_ ?zs); (case zs => rfl))
  | ((with_reducible refine' jss_asg ?_ ?zs ?zt ?zu); (case zs => rfl); (case zt => rfl); (case zu => rfl)))
local macro_rules | `(tactic| walk_at "jg") => `(tactic| first
  | ((with_reducible refine' jg_name ?zn ?_); (case zn => with_reducible assumption))
  | ((with_reducible refine' jg_tup ?zb ?zn ?zl ?_ ?z1 ?z2); (case zb => with_reducible assumption); (case zn => rfl); (case zl => rfl); (case z1 => rfl); (case z2 => rfl))
  | ((with_reducible refine' jg_setX ?zb ?zh ?_ ?zs); (case zb => with_reducible assumption); (case zh => with_reducible assumption); (case zs => intro _; rfl)))
local macro_rules | `(tactic| walk_at "br") => `(tactic| first
  | (with_reducible refine' L2.iteT ?_)
  | (with_reducible refine' L2.iteF ?_)
  | (with_reducible refine' ite_nT ?_)
  | (with_reducible refine' ite_nF ?_)
  | ((with_reducible refine' ite_dec ?_ ?_) <;> intro hb <;> try (exfalso; omega))
  | ((with_reducible refine' ite_ndec ?_ ?_) <;> intro hb <;> try (exfalso; omega))
  | ((with_reducible refine' ite_bool ?_ ?_) <;> intro hb)
  | ((with_reducible refine' ite_nbool ?_ ?_) <;> intro hb))
local macro_rules | `(tactic| walk_at "ja") => `(tactic| first
  | (with_reducible refine' ja_nil ?_)
  | ((with_reducible refine' ja_cons ?_ ?zs); (case zs => rfl)))
local macro_rules | `(tactic| walk_at "jw") => `(tactic| first
  | (with_reducible refine' jw_and ?_)
  | (with_reducible refine' jw_or ?_)
  | (with_reducible refine' jw_and1 ?_)
  | (with_reducible refine' jw_or1 ?_))
local macro_rules | `(tactic| walk_at "st") => `(tactic| first
  | ((with_reducible show JE _ _ _ _ _); walk_at "je")
  | ((with_reducible show JR _ _ _ _ _ _ _); walk_at "jr")
  | ((with_reducible show JX _ _ _ _ _ _); walk_at "jx")
  | ((with_reducible show JA _ _ _ _ _); walk_at "ja")
  | ((with_reducible show JSs _ _ _ _ _); walk_at "js")
  | ((with_reducible show JT _ _ _ _ _); walk_at "jt")
  | ((with_reducible show JV _ _ _ _ _ _); walk_at "jv")
  | ((with_reducible show JG _ _ _ _ _ _); walk_at "jg")
  | ((with_reducible show JGs _ _ _ _ _ _); (first | with_reducible refine' jgs_nil ?_ | ((with_reducible refine' jgs_cons ?_ ?zs); (case zs => rfl)) | refine' jgs_nil ?_ | ((refine' jgs_cons ?_ ?zs); (case zs => rfl))))
  | ((with_reducible show JW _ _ _ _ _); walk_at "jw")
  | ((with_reducible show JO _ _ _ _ _); (first | with_reducible refine' jo_none ?_ | with_reducible refine' jo_some ?_))
  | ((with_reducible show JU _ _ _ _ _ _); with_reducible refine' ju_neg ?_)
  | ((with_reducible show And (LE.le _ sizeLine) _); refine And.intro ?_ ?_)
  | ((with_reducible show LE.le _ sizeLine); with_reducible assumption)
  | ((with_reducible show And (LT.lt (Nat.log2 _) _) _); refine And.intro ?_ ?_; with_reducible assumption)
  | ((with_reducible show LE.le _ sizeLine); (rw [sizeLine_eq]); (first | (simp only [List.length_cons, List.length_nil, List.length_append, List.length_map]; omega) | (simp; done)))
  | (with_reducible refine' ⟨_, rfl, ?_⟩)
  | ((with_reducible show VwK _ _ _); walk_at "vw")
  | ((with_reducible refine' rtX_P ?_ ?zd); (case zd => rfl))
  | ((with_reducible refine' rtX_B ?zd ?_); (case zd => rfl))
  | (with_reducible refine' rtΦ_dat ?_)
  | (with_reducible refine' rtΦ_new ?_)
  | (with_reducible refine' rtE_d ?_)
  | (refine' ⟨_, _, rfl, ?zkit, ?_⟩; (case zkit => with_reducible (show kitB _ _ = some _); with_reducible first | exact kit_NoneType_dict | exact kit_NoneType_list | exact kit_NoneType_tuple | exact kit_NoneType_str | exact kit_NoneType_int | exact kit_NoneType_bool | exact kit_bool_dict | exact kit_bool_list | exact kit_bool_tuple | exact kit_bool_str | exact kit_bool_int | exact kit_bool_bool | exact kit_int_dict | exact kit_int_list | exact kit_int_tuple | exact kit_int_str | exact kit_int_int | exact kit_int_bool | exact kit_str_dict | exact kit_str_list | exact kit_str_tuple | exact kit_str_str | exact kit_str_int | exact kit_str_bool | exact kit_tuple_dict | exact kit_tuple_list | exact kit_tuple_tuple | exact kit_tuple_str | exact kit_tuple_int | exact kit_tuple_bool | exact kit_list_dict | exact kit_list_list | exact kit_list_tuple | exact kit_list_str | exact kit_list_int | exact kit_list_bool | exact kit_dict_dict | exact kit_dict_list | exact kit_dict_tuple | exact kit_dict_str | exact kit_dict_int | exact kit_dict_bool))
  | (refine' ⟨_, _, _, _, _, rfl, rfl, rfl, dsOf_map _, ?_⟩)
  | walk_at "br")
local macro_rules | `(tactic| walk_at "go") => `(tactic| repeat' walk_at "st")
abbrev lsI (ns : List Int) : D := .nd .lst (ns.map .int)
def R_mixed : RP := fun ds post => ∃ n p : Int, ds = [.int n, .int p] ∧ ∀ r : Int, 0 ≤ r → post (.dat (.int r))
def R_rest : RP := fun ds post => ∃ (ns : List Int) (n p : Int), ds = [lsI ns, .int n, .int p] ∧ ∀ r : Int, 0 ≤ r → post (.dat (.int r))
/-- a pool -/
def PoolD (cds : List D) : Prop := ∃ (ns : List Int) (i n f : Int), cds = [lsI ns, .int i, .int n, .int f] ∧ 0 ≤ n
def R_pool : RP := fun ds post => ∃ (ns : List Int), ds = [lsI ns] ∧ ∀ cds, PoolD cds → post (.new .lst cds)
def R_next : RC1 := fun kd cds ds post => kd = .lst ∧ PoolD cds ∧ ds = [] ∧ ∀ cds', PoolD cds' → post (.dat .non) .lst cds'
def Lim (m : Int) : Prop := 0 < m ∧ m.natAbs.log2 < 9000
def R_draw : RC1 := fun kd cds ds post => kd = .lst ∧ PoolD cds ∧ ∃ m : Int, ds = [.int m] ∧ Lim m ∧ ∀ (v : Int) cds', 0 ≤ v → v < m → PoolD cds' → post (.dat (.int v)) .lst cds'
def R_pick : RC1 := fun kd cds ds post => kd = .lst ∧ PoolD cds ∧ ∃ (k : Kd) (os : List D), ds = [.nd k os] ∧ (k = .lst ∨ k = .tup) ∧ 0 < os.length ∧ os.length ≤ 1000 ∧ ∀ d cds', d ∈ os → PoolD cds' → post (.dat d) .lst cds'
theorem mo_mixed : MonoP R_mixed := fun ds p q m ⟨a, b, e, h⟩ => ⟨a, b, e, fun r hr => m _ (h r hr)⟩
theorem mo_rest : MonoP R_rest := fun ds p q m ⟨a, b, c, e, h⟩ => ⟨a, b, c, e, fun r hr => m _ (h r hr)⟩
theorem mo_pool : MonoP R_pool := fun ds p q m ⟨a, e, h⟩ => ⟨a, e, fun r hr => m _ (h r hr)⟩
theorem mo_next : MonoC R_next := fun kd cds ds p q m ⟨a, b, c, h⟩ => ⟨a, b, c, fun r hr => m _ _ _ (h r hr)⟩
theorem mo_draw : MonoC R_draw := fun kd cds ds p q m ⟨a, b, c, d, e, h⟩ => ⟨a, b, c, d, e, fun v r h1 h2 h3 => m _ _ _ (h v r h1 h2 h3)⟩
theorem mo_pick : MonoC R_pick := fun kd cds ds p q m ⟨a, b, c, d, e, f, g, i, h⟩ => ⟨a, b, c, d, e, f, g, i, fun v r h1 h2 => m _ _ _ (h v r h1 h2)⟩
theorem lim_of {m : Int} (h : 0 < m) (h2 : m.natAbs < 2 ^ 1000) : Lim m := ⟨h, Nat.lt_trans (PySem.Flt.log2_lt_of (by decide) h2) (by decide)⟩
theorem ap_mixed {n p : Int} {post : Rt → Prop} (h : ∀ r : Int, 0 ≤ r → post (.dat (.int r))) : R_mixed [.int n, .int p] post := ⟨n, p, rfl, h⟩
theorem ap_rest {ns : List Int} {n p : Int} {post : Rt → Prop} (h : ∀ r : Int, 0 ≤ r → post (.dat (.int r))) : R_rest [lsI ns, .int n, .int p] post := ⟨ns, n, p, rfl, h⟩
theorem ap_pool {ns : List Int} {post : Rt → Prop} (h : ∀ cds, PoolD cds → post (.new .lst cds)) : R_pool [lsI ns] post := ⟨ns, rfl, h⟩
theorem ap_next {cds : List D} {post : Rt → Kd → List D → Prop} (hp : PoolD cds) (h : ∀ cds', PoolD cds' → post (.dat .non) .lst cds') : R_next .lst cds [] post := ⟨rfl, hp, rfl, h⟩
theorem ap_draw {cds : List D} {m : Int} {post : Rt → Kd → List D → Prop} (hp : PoolD cds) (hm : Lim m) (h : ∀ (v : Int) cds', 0 ≤ v → v < m → PoolD cds' → post (.dat (.int v)) .lst cds') : R_draw .lst cds [.int m] post := ⟨rfl, hp, m, rfl, hm, h⟩
theorem ap_pick {cds os : List D} {k : Kd} {post : Rt → Kd → List D → Prop} (hp : PoolD cds) (hk : k = .lst ∨ k = .tup) (h0 : 0 < os.length) (h1 : os.length ≤ 1000) (h : ∀ d cds', d ∈ os → PoolD cds' → post (.dat d) .lst cds') : R_pick .lst cds [.nd k os] post := ⟨rfl, hp, k, os, rfl, hk, h0, h1, h⟩
theorem atI_mod {α : Type} {xs : List α} (h : 0 < xs.length) (i : Int) : ∃ x, L2.atI xs (i % (xs.length : Int)) = some x ∧ x ∈ xs := by
  have h1 : 0 ≤ i % (xs.length : Int) := Int.emod_nonneg _ (by omega)
  have h2 : i % (xs.length : Int) < xs.length := Int.emod_lt_of_pos _ (by omega)
  obtain ⟨j, hj⟩ : ∃ j : Nat, i % (xs.length : Int) = (j : Int) := ⟨(i % (xs.length : Int)).toNat, by omega⟩
  have hl : j < xs.length := by omega
  exact ⟨xs[j], by rw [hj]; exact L2.atI_nat (List.getElem?_eq_getElem hl), List.getElem_mem hl⟩
theorem atI_in {α : Type} {xs : List α} {i : Int} (h1 : 0 ≤ i) (h2 : i < xs.length) : ∃ x, L2.atI xs i = some x ∧ x ∈ xs := by
  obtain ⟨j, hj⟩ : ∃ j : Nat, i = (j : Int) := ⟨i.toNat, by omega⟩
  have hl : j < xs.length := by omega
  exact ⟨xs[j], by rw [hj]; exact L2.atI_nat (List.getElem?_eq_getElem hl), List.getElem_mem hl⟩
structure Bs (mg : Str → Option Value) : Prop where
  b_int : mg "int" = none
  b_len : mg "len" = none
structure Bs2 (mg : Str → Option Value) : Prop extends Bs mg where
  b_range : mg "range" = none
  b_str : mg "str" = none
  b_isinstance : mg "isinstance" = none
  b_all : mg "all" = none
  b_tuple : mg "tuple" = none
  b_dict : mg "dict" = none
  b_list : mg "list" = none
  b_bool : mg "bool" = none
  b_sorted : mg "sorted" = none
  b_reversed : mg "reversed" = none
  b_enumerate : mg "enumerate" = none
  b_min : mg "min" = none
section
variable {P : Program} {w : World} {K : PySem.W.Frag} {mg : Str → Option Value} {base : Heap}
theorem ok_law_mixed {f : Addr} {fd : FuncData} (C : Bs mg) (Fu : Fun K "_law_mixed" "_law_mixed" s_law_mixed f fd) : FnOk P w K mg base CX0 1 f fd ["number", "place"] (spP K R_mixed) := by
  refine fn_P Fu sc_law_mixed (fun ds post h => ?_) fun X F ds post hX hfn hH h => ?_
  · obtain ⟨n, p, rfl, _⟩ := h
    rfl
  · obtain ⟨n, p, rfl, k⟩ := h
    have bx := hX.bx
    have r0 := hX.nmR (i := 0) (x := "number") rfl (by first | exact Or.inl (by decide +kernel) | exact Or.inr (Or.inl (by decide +kernel))); have w0 := hX.nmW (i := 0) (x := "number") rfl (by decide +kernel); have r1 := hX.nmR (i := 1) (x := "place") rfl (by first | exact Or.inl (by decide +kernel) | exact Or.inr (Or.inl (by decide +kernel))); have w1 := hX.nmW (i := 1) (x := "place") rfl (by decide +kernel); have r2 := hX.nmR (i := 2) (x := "first") rfl (by first | exact Or.inl (by decide +kernel) | exact Or.inr (Or.inl (by decide +kernel))); have w2 := hX.nmW (i := 2) (x := "first") rfl (by decide +kernel); have r3 := hX.nmR (i := 3) (x := "second") rfl (by first | exact Or.inl (by decide +kernel) | exact Or.inr (Or.inl (by decide +kernel))); have w3 := hX.nmW (i := 3) (x := "second") rfl (by decide +kernel); have r4 := hX.nmR (i := 4) (x := "third") rfl (by first | exact Or.inl (by decide +kernel) | exact Or.inr (Or.inl (by decide +kernel))); have w4 := hX.nmW (i := 4) (x := "third") rfl (by decide +kernel); have g_int := hX.glb (x := "int") (by decide +kernel) C.b_int
    conv => (arg 3; whnf)
    walk_at "go"
    exact k _ (by omega)
theorem ok_law_rest {f : Addr} {fd : FuncData} (C : Bs mg) (c_law_mixed : CaP P w K mg base "_law_mixed" 1 R_mixed) (Fu : Fun K "_law_rest" "_law_rest" s_law_rest f fd) : FnOk P w K mg base CX0 2 f fd ["script", "place", "fills"] (spP K R_rest) := by
  refine fn_P Fu sc_law_rest (fun ds post h => ?_) fun X F ds post hX hfn hH h => ?_
  · obtain ⟨ns, n, p, rfl, _⟩ := h
    rfl
  · obtain ⟨ns, n, p, rfl, k⟩ := h
    have bx := hX.bx
    have r0 := hX.nmR (i := 0) (x := "script") rfl (by first | exact Or.inl (by decide +kernel) | exact Or.inr (Or.inl (by decide +kernel))); have w0 := hX.nmW (i := 0) (x := "script") rfl (by decide +kernel); have r1 := hX.nmR (i := 1) (x := "place") rfl (by first | exact Or.inl (by decide +kernel) | exact Or.inr (Or.inl (by decide +kernel))); have w1 := hX.nmW (i := 1) (x := "place") rfl (by decide +kernel); have r2 := hX.nmR (i := 2) (x := "fills") rfl (by first | exact Or.inl (by decide +kernel) | exact Or.inr (Or.inl (by decide +kernel))); have w2 := hX.nmW (i := 2) (x := "fills") rfl (by decide +kernel); have r3 := hX.nmR (i := 3) (x := "number") rfl (by first | exact Or.inl (by decide +kernel) | exact Or.inr (Or.inl (by decide +kernel))); have w3 := hX.nmW (i := 3) (x := "number") rfl (by decide +kernel); have g_len := hX.glb (x := "len") (by decide +kernel) C.b_len; have g_int := hX.glb (x := "int") (by decide +kernel) C.b_int; have d_law_mixed := c_law_mixed.at hX (by decide +kernel)
    conv => (arg 3; whnf)
    walk_at "st"; walk_at "st"
    refine jss_ifM (fun s1 => ∃ z : Int, s1 = (entry N_law_rest (List.map E.d [lsI ns, D.int n, D.int p]) [] 0).set 3 (E.d (D.int z))) ?_ ?_
    · walk_at "go"
      · have hl : 0 < ((ns.map D.int).map E.d).length := by omega
        obtain ⟨x, h1, h2⟩ := atI_mod hl n
        refine jx_seq rfl (.inl rfl) h1 ?_
        simp only [List.map_map, List.mem_map, Function.comp] at h2
        obtain ⟨z, _, rfl⟩ := h2
        walk_at "go"
        exact ⟨z, rfl⟩
      · exact ⟨0, rfl⟩
    · rintro s1 ⟨z, rfl⟩
      refine jss_ifM (fun s1 => ∃ z : Int, 0 ≤ z ∧ s1 = (entry N_law_rest (List.map E.d [lsI ns, D.int n, D.int p]) [] 0).set 3 (E.d (D.int z))) ?_ ?_
      · walk_at "go"
        · exact ⟨1 - 2 * z, by omega, rfl⟩
        · exact ⟨z, by omega, rfl⟩
      · rintro s1 ⟨z, hz, rfl⟩
        walk_at "go"
        · have e : (10 : Int) ^ Int.toNat 18 = 1000000000000000000 := by decide
          rename_i hb
          rw [e] at hb ⊢
          exact k _ (by omega)
        all_goals refine ap_mixed fun r hr => ?_
        all_goals exact k _ hr
theorem ok_law_pool {f : Addr} {fd : FuncData} (C : Bs mg) (c_law_rest : CaP P w K mg base "_law_rest" 2 R_rest) (Fu : Fun K "_law_pool" "_law_pool" s_law_pool f fd) : FnOk P w K mg base CX0 3 f fd ["script"] (spP K R_pool) := by
  refine fn_P Fu sc_law_pool (fun ds post h => ?_) fun X F ds post hX hfn hH h => ?_
  · obtain ⟨ns, rfl, _⟩ := h
    rfl
  · obtain ⟨ns, rfl, k⟩ := h
    have bx := hX.bx
    have r0 := hX.nmR (i := 0) (x := "script") rfl (by first | exact Or.inl (by decide +kernel) | exact Or.inr (Or.inl (by decide +kernel))); have w0 := hX.nmW (i := 0) (x := "script") rfl (by decide +kernel); have d_law_rest := c_law_rest.at hX (by decide +kernel)
    conv => (arg 3; whnf)
    refine jss_ret (je_own (jn_lst ?_))
    walk_at "go"
    refine ap_rest fun r hr => ?_
    walk_at "go"
    exact ⟨rfl, .lst, _, _, rfl, rfl, Nat.zero_le _, k _ ⟨ns, _, _, _, rfl, hr⟩⟩
theorem ok_law_next {f : Addr} {fd : FuncData} (C : Bs mg) (c_law_rest : CaP P w K mg base "_law_rest" 2 R_rest) (Fu : Fun K "_law_next" "_law_next" s_law_next f fd) : FnOk P w K mg base CX0 3 f fd ["pool"] (spC K R_next) := by
  refine fn_C Fu sc_law_next (fun kd cds ds post h => ?_) fun X F kd cds ds post hX hfn hH h => ?_
  · obtain ⟨_, _, rfl, _⟩ := h
    rfl
  · obtain ⟨rfl, ⟨ns, i, n, g, rfl, hn⟩, rfl, k⟩ := h
    have bx := hX.bx
    have r0 := hX.nmR (i := 0) (x := "pool") rfl (by first | exact Or.inl (by decide +kernel) | exact Or.inr (Or.inl (by decide +kernel))); have w0 := hX.nmW (i := 0) (x := "pool") rfl (by decide +kernel); have d_law_rest := c_law_rest.at hX (by decide +kernel)
    conv => (arg 3; whnf)
    walk_at "go"
    refine .inl ⟨0, _, _, _, rfl, rfl, rfl, rfl, ?_⟩
    walk_at "go"
    refine ap_rest fun r hr => ?_
    walk_at "go"
    refine .inl ⟨0, _, _, _, rfl, rfl, rfl, rfl, ?_⟩
    walk_at "go"
    refine .inl ⟨0, _, _, _, rfl, rfl, rfl, rfl, ?_⟩
    walk_at "go"
    exact ⟨.lst, _, _, rfl, rfl, k _ ⟨ns, _, _, _, rfl, hr⟩⟩
theorem ok_law_draw {f : Addr} {fd : FuncData} (C : Bs mg) (c_law_rest : CaP P w K mg base "_law_rest" 2 R_rest) (Fu : Fun K "_law_draw" "_law_draw" s_law_draw f fd) : FnOk P w K mg base CX0 3 f fd ["pool", "limit"] (spC K R_draw) := by
  refine fn_C Fu sc_law_draw (fun kd cds ds post h => ?_) fun X F kd cds ds post hX hfn hH h => ?_
  · obtain ⟨_, _, m, rfl, _⟩ := h
    rfl
  · obtain ⟨rfl, ⟨ns, i, n, g, rfl, hn⟩, m, rfl, ⟨hm, hm2⟩, k⟩ := h
    have bx := hX.bx
    have r0 := hX.nmR (i := 0) (x := "pool") rfl (by first | exact Or.inl (by decide +kernel) | exact Or.inr (Or.inl (by decide +kernel))); have w0 := hX.nmW (i := 0) (x := "pool") rfl (by decide +kernel); have r1 := hX.nmR (i := 1) (x := "limit") rfl (by first | exact Or.inl (by decide +kernel) | exact Or.inr (Or.inl (by decide +kernel))); have w1 := hX.nmW (i := 1) (x := "limit") rfl (by decide +kernel); have r2 := hX.nmR (i := 2) (x := "value") rfl (by first | exact Or.inl (by decide +kernel) | exact Or.inr (Or.inl (by decide +kernel))); have w2 := hX.nmW (i := 2) (x := "value") rfl (by decide +kernel); have d_law_rest := c_law_rest.at hX (by decide +kernel); have g_int := hX.glb (x := "int") (by decide +kernel) C.b_int
    conv => (arg 3; whnf)
    refine jss_ifM (fun s1 => ∃ n g : Int, 0 ≤ n ∧ s1 = entry N_law_draw (E.r 0 :: List.map E.d [D.int m]) [.nd .lst (List.map E.d [lsI ns, .int i, .int n, .int g])] 1) ?_ ?_
    · walk_at "go"
      · refine .inl ⟨0, _, _, _, rfl, rfl, rfl, rfl, ?_⟩
        walk_at "go"
        refine ap_rest fun r hr => ?_
        walk_at "go"
        refine .inl ⟨0, _, _, _, rfl, rfl, rfl, rfl, ?_⟩
        walk_at "go"
        exact ⟨r, g + 1, hr, rfl⟩
      · exact ⟨n, g, hn, rfl⟩
    · rintro s1 ⟨n, g, hn, rfl⟩
      have hW : CDiv n m ∨ CDivW n m := .inr ⟨hm, hm2⟩
      walk_at "go"
      refine .inl ⟨0, _, _, _, rfl, rfl, rfl, rfl, ?_⟩
      walk_at "go"
      refine ⟨.lst, _, _, rfl, rfl, ?_⟩
      exact k _ _ (Int.emod_nonneg _ (by omega)) (Int.emod_lt_of_pos _ hm) ⟨ns, _, _, _, rfl, Int.ediv_nonneg hn (by omega)⟩
theorem ok_law_pick {f : Addr} {fd : FuncData} (C : Bs mg) (c_law_draw : CaC P w K mg base "_law_draw" 3 R_draw) (Fu : Fun K "_law_pick" "_law_pick" s_law_pick f fd) : FnOk P w K mg base CX0 4 f fd ["pool", "options"] (spC K R_pick) := by
  refine fn_C Fu sc_law_pick (fun kd cds ds post h => ?_) fun X F kd cds ds post hX hfn hH h => ?_
  · obtain ⟨_, _, k, os, rfl, _⟩ := h
    rfl
  · obtain ⟨rfl, hp, kk, os, rfl, hk, h0, h1, k⟩ := h
    have bx := hX.bx
    have r0 := hX.nmR (i := 0) (x := "pool") rfl (by first | exact Or.inl (by decide +kernel) | exact Or.inr (Or.inl (by decide +kernel))); have w0 := hX.nmW (i := 0) (x := "pool") rfl (by decide +kernel); have r1 := hX.nmR (i := 1) (x := "options") rfl (by first | exact Or.inl (by decide +kernel) | exact Or.inr (Or.inl (by decide +kernel))); have w1 := hX.nmW (i := 1) (x := "options") rfl (by decide +kernel); have d_law_draw := c_law_draw.at hX (by decide +kernel); have g_len := hX.glb (x := "len") (by decide +kernel) C.b_len
    conv => (arg 3; whnf)
    have hkk : ∀ C fs, kk ≠ .ins C fs := by rcases hk with rfl | rfl <;> intro _ _ z <;> cases z
    walk_at "go"
    refine jv_len_nd rfl hkk ?_
    walk_at "go"
    have hl : (os.map E.d).length = os.length := by simp
    refine ap_draw hp (lim_of (by omega) (by omega)) fun v cds' v0 v1 hp' => ?_
    rw [hl] at v1
    refine rtΦ_dat ?_
    obtain ⟨x, x1, x2⟩ := atI_in (xs := os.map E.d) v0 (by omega)
    obtain ⟨d, hd, rfl⟩ := List.mem_map.mp x2
    refine jx_seq rfl hk x1 ?_
    exact ⟨.lst, _, _, rfl, dsOf_map _, k _ _ hd hp'⟩
end
/-! ### facts: plain -/
abbrev optD : Option Int → D
  | none => .non
  | some z => .int z
structure Row where
  f : Int
  l : Option Int
  v : Vv
abbrev rowD (r : Row) : D := .nd .tup [.int r.f, optD r.l, vvD r.v]
abbrev rowsD (rs : List Row) : D := .nd .lst (rs.map rowD)
abbrev FSf : List Str := ["default", "rows"]
abbrev factD (C : Addr) (d : Vv) (rs : List Row) : D := .nd (.ins C FSf) [vvD d, rowsD rs]
def leO (p : Int) : Option Int → Bool
  | none => true
  | some z => decide (p ≤ z)
def hold (f : Int) (l : Option Int) (p : Int) : Bool := decide (f ≤ p) && leO p l
theorem hold_iff {f p : Int} {l : Option Int} : hold f l p = true ↔ f ≤ p ∧ leO p l = true := by unfold hold; rw [Bool.and_eq_true, decide_eq_true_eq]
def valAt (d : Vv) (rs : List Row) (p : Int) : Vv := rs.foldl (fun a r => if hold r.f r.l p = true then r.v else a) d
theorem valAt_app (d : Vv) (a b : List Row) (p : Int) : valAt d (a ++ b) p = valAt (valAt d a p) b p := by unfold valAt; rw [List.foldl_append]
theorem valAt_off {d : Vv} {p : Int} : ∀ {b : List Row}, (∀ r ∈ b, hold r.f r.l p = false) → valAt d b p = d
  | [], _ => rfl
  | r :: b, h => by
    show valAt (if hold r.f r.l p = true then r.v else d) b p = d
    rw [h r List.mem_cons_self, if_neg (by decide)]
    exact valAt_off fun q hq => h q (List.mem_cons_of_mem _ hq)
theorem valAt_last {d : Vv} {a b : List Row} {r : Row} {p : Int} (h1 : hold r.f r.l p = true) (h2 : ∀ q ∈ b, hold q.f q.l p = false) : valAt d (a ++ r :: b) p = r.v := by
  rw [valAt_app]
  show valAt (if hold r.f r.l p = true then r.v else _) b p = r.v
  rw [if_pos h1]
  exact valAt_off h2
theorem valAt_same {p q : Int} : ∀ {rs : List Row} {d : Vv}, (∀ r ∈ rs, hold r.f r.l p = hold r.f r.l q) → valAt d rs p = valAt d rs q
  | [], _, _ => rfl
  | r :: rs, d, h => by
    show valAt (if hold r.f r.l p = true then r.v else d) rs p = valAt (if hold r.f r.l q = true then r.v else d) rs q
    rw [h r List.mem_cons_self]
    exact valAt_same fun s hs => h s (List.mem_cons_of_mem _ hs)
theorem valAt_take {d : Vv} {rs : List Row} {i : Nat} {r : Row} {p : Int} (h : rs[i]? = some r) : valAt d (rs.take (i + 1)) p = if hold r.f r.l p = true then r.v else valAt d (rs.take i) p := by
  rw [List.take_add_one, h, valAt_app]; rfl
structure Pc where
  s : Int
  e : Option Int
  v : Vv
abbrev pcD (q : Pc) : D := .nd .tup [.int q.s, optD q.e, vvD q.v]
def PcsOk (val : Int → Vv) (last : Option Int) : Int → List Pc → Prop
  | _, [] => False
  | s, [p] => p.s = s ∧ p.e = last ∧ (∀ l, last = some l → s ≤ l) ∧ ∀ q, hold s last q = true → val q = p.v
  | s, p :: p2 :: r => p.s = s ∧ ∃ z, p.e = some z ∧ s ≤ z ∧ (∀ l, last = some l → z < l) ∧ (∀ q, s ≤ q → q ≤ z → val q = p.v) ∧ p2.v ≠ p.v ∧ PcsOk val last (z + 1) (p2 :: r)
/-- the last piece grows -/
theorem PcsOk.grow {val : Int → Vv} {st : Int} {e : Option Int} (he : ∀ l, e = some l → st ≤ l) : ∀ {a : List Pc} {p : Pc} {s : Int}, PcsOk val (some (st - 1)) s (a ++ [p]) → (∀ q, hold st e q = true → val q = p.v) → PcsOk val e s (a ++ [⟨p.s, e, p.v⟩])
  | [], p, s, h, hv => by
    obtain ⟨h1, h2, h3, h4⟩ := h
    have h3 := h3 _ rfl
    refine ⟨h1, rfl, fun l hl => by have := he l hl; omega, fun q hq => ?_⟩
    obtain ⟨q1, q2⟩ := hold_iff.mp hq
    by_cases c : st ≤ q
    · exact hv q (hold_iff.mpr ⟨c, q2⟩)
    · exact h4 q (hold_iff.mpr ⟨q1, by unfold leO; rw [decide_eq_true_eq]; omega⟩)
  | [b], p, s, h, hv => by
    obtain ⟨h1, z, h2, h3, h4, h5, h6, h7⟩ := h
    have h4 := h4 _ rfl
    exact ⟨h1, z, h2, h3, fun l hl => by have := he l hl; omega, h5, h6, PcsOk.grow he (a := []) h7 hv⟩
  | b :: b2 :: a, p, s, h, hv => by
    obtain ⟨h1, z, h2, h3, h4, h5, h6, h7⟩ := h
    have h4 := h4 _ rfl
    exact ⟨h1, z, h2, h3, fun l hl => by have := he l hl; omega, h5, h6, PcsOk.grow he (a := b2 :: a) h7 hv⟩
/-- one more piece -/
theorem PcsOk.more {val : Int → Vv} {st : Int} {e : Option Int} {v : Vv} (he : ∀ l, e = some l → st ≤ l) : ∀ {a : List Pc} {p : Pc} {s : Int}, PcsOk val (some (st - 1)) s (a ++ [p]) → p.v ≠ v → (∀ q, hold st e q = true → val q = v) → PcsOk val e s (a ++ [p] ++ [⟨st, e, v⟩])
  | [], p, s, h, hn, hv => by
    obtain ⟨h1, h2, h3, h4⟩ := h
    have h3 := h3 _ rfl
    exact ⟨h1, st - 1, h2, h3, fun l hl => by have := he l hl; omega, fun q q1 q2 => h4 q (hold_iff.mpr ⟨q1, by unfold leO; rw [decide_eq_true_eq]; omega⟩), fun z => hn z.symm, by
      rw [show st - 1 + 1 = st by omega]
      exact ⟨rfl, rfl, he, hv⟩⟩
  | [b], p, s, h, hn, hv => by
    obtain ⟨h1, z, h2, h3, h4, h5, h6, h7⟩ := h
    have h4 := h4 _ rfl
    exact ⟨h1, z, h2, h3, fun l hl => by have := he l hl; omega, h5, h6, PcsOk.more he (a := []) h7 hn hv⟩
  | b :: b2 :: a, p, s, h, hn, hv => by
    obtain ⟨h1, z, h2, h3, h4, h5, h6, h7⟩ := h
    have h4 := h4 _ rfl
    exact ⟨h1, z, h2, h3, fun l hl => by have := he l hl; omega, h5, h6, PcsOk.more he (a := b2 :: a) h7 hn hv⟩
theorem const_to {val : Int → Vv} {st : Int} {e : Option Int} (h : ∀ q, st < q → hold st e q = true → val q = val (q - 1)) : ∀ (n : Nat), hold st e (st + n) = true → val (st + n) = val st
  | 0, _ => by rw [show st + ((0 : Nat) : Int) = st by omega]
  | n + 1, hq => by
    obtain ⟨q1, q2⟩ := hold_iff.mp hq
    have h1 := h (st + ((n + 1 : Nat) : Int)) (by omega) hq
    rw [h1, show st + ((n + 1 : Nat) : Int) - 1 = st + (n : Int) by omega]
    refine const_to h n (hold_iff.mpr ⟨by omega, ?_⟩)
    cases e with
    | none => rfl
    | some z =>
      unfold leO at q2 ⊢
      rw [decide_eq_true_eq] at q2 ⊢
      omega
theorem const_on {val : Int → Vv} {st : Int} {e : Option Int} (h : ∀ q, st < q → hold st e q = true → val q = val (q - 1)) (q : Int) (hq : hold st e q = true) : val q = val st := by
  obtain ⟨q1, _⟩ := hold_iff.mp hq
  obtain ⟨n, rfl⟩ : ∃ n : Nat, q = st + n := ⟨(q - st).toNat, by omega⟩
  exact const_to h n hq
/-- the periods at which something begins -/
structure StOk (sp : List (Int × Option Int)) (first : Int) (last : Option Int) (ys : List Int) : Prop where
  so : ys.Pairwise (· < ·)
  h0 : first ∈ ys
  ge : ∀ y ∈ ys, first ≤ y
  le : ∀ y ∈ ys, leO y last = true
  one : ∀ p ∈ sp, first < p.1 → leO p.1 last = true → p.1 ∈ ys
  two : ∀ p ∈ sp, ∀ z, p.2 = some z → first ≤ z → leO (z + 1) last = true → z + 1 ∈ ys
theorem leO_lt {z l : Int} : leO (z + 1) (some l) = decide (z < l) := by unfold leO; exact decide_eq_decide.mpr (by omega)
theorem StOk.change {rs : List Row} {d : Vv} {first : Int} {last : Option Int} {ys : List Int} (h : StOk (rs.map fun r => (r.f, r.l)) first last ys) {q : Int} (h1 : first < q) (h2 : leO q last = true) (h3 : q ∉ ys) : valAt d rs q = valAt d rs (q - 1) := by
  refine valAt_same fun r hr => ?_
  have hm : (r.f, r.l) ∈ rs.map fun r => (r.f, r.l) := List.mem_map.mpr ⟨r, hr, rfl⟩
  have a1 : r.f ≠ q := fun z => h3 (by
    have := h.one _ hm (by show first < r.f; omega) (by show leO r.f last = true; rw [z]; exact h2)
    rw [← z]; exact this)
  have a2 : ∀ z, r.l = some z → z + 1 ≠ q := fun z hz e => h3 (by
    have := h.two _ hm z hz (by omega) (by rw [e]; exact h2)
    rw [← e]; exact this)
  unfold hold
  have b1 : decide (r.f ≤ q) = decide (r.f ≤ q - 1) := decide_eq_decide.mpr (by omega)
  rw [b1]
  congr 1
  cases e : r.l with
  | none => rfl
  | some z =>
    have := a2 z e
    unfold leO
    exact decide_eq_decide.mpr (by omega)
def R_holds : RP := fun ds post => ∃ (f : Int) (l : Option Int) (p : Int), ds = [.int f, optD l, .int p] ∧ post (.dat (.bl (hold f l p)))
theorem ap_holds {f p : Int} {l : Option Int} {post : Rt → Prop} (q : post (.dat (.bl (hold f l p)))) : R_holds [.int f, optD l, .int p] post := ⟨f, l, p, rfl, q⟩
theorem mo_holds : MonoP R_holds := fun ds p q m ⟨a, b, c, d, h⟩ => ⟨a, b, c, d, m _ h⟩
abbrev spD (p : Int × Option Int) : D := .nd .tup [.int p.1, optD p.2]
abbrev insN (ns : List Int) (y : Int) : List Int := if y ∈ ns then ns else ns ++ [y]
theorem memK_int {ns : List Int} {y : Int} : memK (.inl y) (ns.map Sum.inl) = decide (y ∈ ns) := by
  rw [Bool.eq_iff_iff, memK_iff, decide_eq_true_eq, List.mem_map]
  exact ⟨fun ⟨a, h1, h2⟩ => by cases h2; exact h1, fun h => ⟨y, h, rfl⟩⟩
theorem dpK_int {ns : List Int} {y : Int} : dpK (ns.map Sum.inl) (.inl y) = (insN ns y).map Sum.inl := by
  unfold dpK insN
  rw [memK_int]
  by_cases h : y ∈ ns
  · rw [decide_eq_true h, if_pos rfl, if_pos h]
  · rw [decide_eq_false h, if_neg (by decide), if_neg h, List.map_append]; rfl
theorem insN_nd {ns : List Int} {y : Int} (h : ns.Nodup) : (insN ns y).Nodup := by
  unfold insN
  split
  · exact h
  · rename_i hn
    rw [List.nodup_append]
    exact ⟨h, by simp, fun a ha b hb e => by
      have : b = y := by simpa using hb
      rw [e, this] at ha
      exact hn ha⟩
theorem insN_mem {ns : List Int} {x y : Int} : x ∈ insN ns y ↔ x ∈ ns ∨ x = y := by
  unfold insN
  split
  · exact ⟨.inl, fun h => h.elim id fun e => by rw [e]; assumption⟩
  · rw [List.mem_append]; simp
theorem insN_len {ns : List Int} {y : Int} : (insN ns y).length ≤ ns.length + 1 := by
  unfold insN
  split
  · omega
  · rw [List.length_append]; simp
def R_starts : RP := fun ds post => ∃ (sp : List (Int × Option Int)) (first : Int) (last : Option Int), ds = [.nd .lst (sp.map spD), .int first, optD last] ∧ sp.length ≤ 30 ∧ leO first last = true ∧ ∀ ys : List Int, ys.length ≤ 62 → StOk sp first last ys → post (.dat (.nd .lst (ys.map .int)))
theorem ap_starts {sp : List (Int × Option Int)} {first : Int} {last : Option Int} {post : Rt → Prop} (h1 : sp.length ≤ 30) (h2 : leO first last = true) (q : ∀ ys : List Int, ys.length ≤ 62 → StOk sp first last ys → post (.dat (.nd .lst (ys.map .int)))) : R_starts [.nd .lst (sp.map spD), .int first, optD last] post := ⟨sp, first, last, rfl, h1, h2, q⟩
theorem mo_starts : MonoP R_starts := fun ds p q m ⟨a, b, c, d, e, f, h⟩ => ⟨a, b, c, d, e, f, fun ys h1 h2 => m _ (h ys h1 h2)⟩
def nxE (ys : List Int) (last : Option Int) (i : Nat) : Option Int := if i + 1 < ys.length then some (ys.getD (i + 1) 0 - 1) else last
def endD (ys : List Int) (last : Option Int) (i : Nat) : D := .nd .tup [.int (ys.getD i 0), optD (nxE ys last i)]
def R_ends : RP := fun ds post => ∃ (ys : List Int) (last : Option Int), ds = [.nd .lst (ys.map .int), optD last] ∧ ys.length ≤ 62 ∧ post (.new .lst ((List.range ys.length).map (endD ys last)))
theorem ap_ends {ys : List Int} {last : Option Int} {post : Rt → Prop} (h1 : ys.length ≤ 62) (q : post (.new .lst ((List.range ys.length).map (endD ys last)))) : R_ends [.nd .lst (ys.map .int), optD last] post := ⟨ys, last, rfl, h1, q⟩
theorem mo_ends : MonoP R_ends := fun ds p q m ⟨a, b, c, d, h⟩ => ⟨a, b, c, d, m _ h⟩
structure SInv (sp : List (Int × Option Int)) (first : Int) (last : Option Int) (i : Nat) (ns : List Int) (es : List E) : Prop where
  nd : ns.Nodup
  el : es.length = ns.length
  nl : ns.length ≤ 1 + 2 * i
  h0 : first ∈ ns
  ok : ∀ y ∈ ns, first ≤ y ∧ leO y last = true
  one : ∀ p ∈ sp.take i, first < p.1 → leO p.1 last = true → p.1 ∈ ns
  two : ∀ p ∈ sp.take i, ∀ z, p.2 = some z → first ≤ z → leO (z + 1) last = true → z + 1 ∈ ns
section
variable {P : Program} {w : World} {K : PySem.W.Frag} {mg : Str → Option Value} {base : Heap}
theorem ok_holds {f : Addr} {fd : FuncData} (Fu : Fun K "holds" "holds" s_holds f fd) : FnOk P w K mg base CX0 1 f fd ["first", "last", "period"] (spP K R_holds) := by
  refine fn_P Fu sc_holds (fun ds post h => ?_) fun X F ds post hX hfn hH h => ?_
  · obtain ⟨_, _, _, rfl, _⟩ := h
    rfl
  · obtain ⟨a, l, p, rfl, k⟩ := h
    have bx := hX.bx
    have r0 := hX.nmR (i := 0) (x := "first") rfl (by first | exact Or.inl (by decide +kernel) | exact Or.inr (Or.inl (by decide +kernel))); have w0 := hX.nmW (i := 0) (x := "first") rfl (by decide +kernel); have r1 := hX.nmR (i := 1) (x := "last") rfl (by first | exact Or.inl (by decide +kernel) | exact Or.inr (Or.inl (by decide +kernel))); have w1 := hX.nmW (i := 1) (x := "last") rfl (by decide +kernel); have r2 := hX.nmR (i := 2) (x := "period") rfl (by first | exact Or.inl (by decide +kernel) | exact Or.inr (Or.inl (by decide +kernel))); have w2 := hX.nmW (i := 2) (x := "period") rfl (by decide +kernel)
    conv => (arg 3; whnf)
    unfold hold at k
    cases l with
    | none =>
      walk_at "go"
      · rename_i h
        rw [decide_eq_true h] at k; exact k
      · rename_i h
        rw [decide_eq_false h] at k; exact k
    | some z =>
      unfold leO at k
      walk_at "go"
      · rename_i h
        rw [decide_eq_true h, Bool.true_and] at k; exact k
      · rename_i h
        rw [decide_eq_false h, Bool.false_and] at k; exact k
theorem ok_starts {f : Addr} {fd : FuncData} (C : Bs2 mg) (Fu : Fun K "starts" "starts" s_starts f fd) : FnOk P w K mg base CX0 1 f fd ["spans", "first", "last"] (spP K R_starts) := by
  refine fn_P Fu sc_starts (fun ds post h => ?_) fun X F ds post hX hfn hH h => ?_
  · obtain ⟨_, _, _, rfl, _⟩ := h
    rfl
  · obtain ⟨sp, first, last, rfl, hsl, hfl, k⟩ := h
    have bx := hX.bx
    have r0 := hX.nmR (i := 0) (x := "spans") rfl (by first | exact Or.inl (by decide +kernel) | exact Or.inr (Or.inl (by decide +kernel))); have w0 := hX.nmW (i := 0) (x := "spans") rfl (by decide +kernel); have r1 := hX.nmR (i := 1) (x := "first") rfl (by first | exact Or.inl (by decide +kernel) | exact Or.inr (Or.inl (by decide +kernel))); have w1 := hX.nmW (i := 1) (x := "first") rfl (by decide +kernel); have r2 := hX.nmR (i := 2) (x := "last") rfl (by first | exact Or.inl (by decide +kernel) | exact Or.inr (Or.inl (by decide +kernel))); have w2 := hX.nmW (i := 2) (x := "last") rfl (by decide +kernel); have r3 := hX.nmR (i := 3) (x := "found") rfl (by first | exact Or.inl (by decide +kernel) | exact Or.inr (Or.inl (by decide +kernel))); have w3 := hX.nmW (i := 3) (x := "found") rfl (by decide +kernel); have r4 := hX.nmR (i := 4) (x := "one") rfl (by first | exact Or.inl (by decide +kernel) | exact Or.inr (Or.inl (by decide +kernel))); have w4 := hX.nmW (i := 4) (x := "one") rfl (by decide +kernel); have r5 := hX.nmR (i := 5) (x := "other") rfl (by first | exact Or.inl (by decide +kernel) | exact Or.inr (Or.inl (by decide +kernel))); have w5 := hX.nmW (i := 5) (x := "other") rfl (by decide +kernel); have g_sorted := hX.glb (x := "sorted") (by decide +kernel) C.b_sorted
    conv => (arg 3; whnf)
    refine jss_set w3 (je_ownD (jn_dict1 r1 rfl ⟨_, rfl, ?_⟩)) (by rfl)
    refine jss_for bx (fun i s => ∃ (ns : List Int) (es : List E) (o4 o5 : Option D), SInv sp first last i ns es ∧ s = ⟨[some (.d (.nd .lst (sp.map spD))), some (.d (.int first)), some (.d (optD last)), some (.r 0), o4.map .d, o5.map .d], [.nd (.dct (ns.map Sum.inl)) es], 0⟩) (ji_lst ?_) (by intro _; rfl)
    walk_at "go"
    refine ⟨⟨[first], _, none, none, ⟨by simp, rfl, by show 1 ≤ _; omega, by simp, fun y hy => by (obtain rfl : y = _ := by simpa using hy); exact ⟨Int.le_refl _, hfl⟩, fun p hp => by simp at hp, fun p hp => by simp at hp⟩, rfl⟩, ?_, ?_⟩
    · rintro i v s' hi ⟨d, hd, rfl⟩ ⟨ns, es, o4, o5, I, rfl⟩
      rw [List.getElem?_map] at hd
      cases ex : sp[i]? with
      | none => rw [ex] at hd; cases hd
      | some p =>
        rw [ex] at hd
        cases hd
        have tk : sp.take (i + 1) = sp.take i ++ [p] := by rw [List.take_add_one, ex]; rfl
        have hil : i < sp.length := (List.getElem?_eq_some_iff.mp ex).1
        obtain ⟨one, other⟩ := p
        iterate 6 walk_at "st"
        refine jss_ifM (fun s1 => ∃ (ns : List Int) (es : List E), ns.Nodup ∧ es.length = ns.length ∧ ns.length ≤ 2 + 2 * i ∧ first ∈ ns ∧ (∀ y ∈ ns, first ≤ y ∧ leO y last = true) ∧ (∀ p ∈ sp.take (i + 1), first < p.1 → leO p.1 last = true → p.1 ∈ ns) ∧ (∀ p ∈ sp.take i, ∀ z, p.2 = some z → first ≤ z → leO (z + 1) last = true → z + 1 ∈ ns) ∧ s1 = ⟨[some (.d (.nd .lst (sp.map spD))), some (.d (.int first)), some (.d (optD last)), some (.r 0), some (.d (.int one)), some (.d (optD other))], [.nd (.dct (ns.map Sum.inl)) es], 0⟩) ?_ ?_
        · have tk1 : ∀ ns' : List Int, (∀ p ∈ sp.take i, first < p.1 → leO p.1 last = true → p.1 ∈ ns') → (first < one → leO one last = true → one ∈ ns') → ∀ p ∈ sp.take (i + 1), first < p.1 → leO p.1 last = true → p.1 ∈ ns' := fun ns' a b p hp => by
            rw [tk] at hp
            rcases List.mem_append.mp hp with hp | hp
            · exact a p hp
            · obtain rfl : p = _ := by simpa using hp
              exact b
          have no : ¬ (first < one ∧ leO one last = true) → ∃ (ns' : List Int) (es' : List E), ns'.Nodup ∧ es'.length = ns'.length ∧ ns'.length ≤ 2 + 2 * i ∧ first ∈ ns' ∧ (∀ y ∈ ns', first ≤ y ∧ leO y last = true) ∧ (∀ p ∈ sp.take (i + 1), first < p.1 → leO p.1 last = true → p.1 ∈ ns') ∧ (∀ p ∈ sp.take i, ∀ z, p.2 = some z → first ≤ z → leO (z + 1) last = true → z + 1 ∈ ns') ∧ (⟨[some (.d (.nd .lst (sp.map spD))), some (.d (.int first)), some (.d (optD last)), some (.r 0), some (.d (.int one)), some (.d (optD other))], [.nd (.dct (ns.map Sum.inl)) es], 0⟩ : S) = ⟨[some (.d (.nd .lst (sp.map spD))), some (.d (.int first)), some (.d (optD last)), some (.r 0), some (.d (.int one)), some (.d (optD other))], [.nd (.dct (ns'.map Sum.inl)) es'], 0⟩ := fun h => ⟨ns, es, I.nd, I.el, by have := I.nl; omega, I.h0, I.ok, tk1 ns I.one fun a b => absurd ⟨a, b⟩ h, I.two, rfl⟩
          have yes : first < one → leO one last = true → ∃ (ns' : List Int) (es' : List E), ns'.Nodup ∧ es'.length = ns'.length ∧ ns'.length ≤ 2 + 2 * i ∧ first ∈ ns' ∧ (∀ y ∈ ns', first ≤ y ∧ leO y last = true) ∧ (∀ p ∈ sp.take (i + 1), first < p.1 → leO p.1 last = true → p.1 ∈ ns') ∧ (∀ p ∈ sp.take i, ∀ z, p.2 = some z → first ≤ z → leO (z + 1) last = true → z + 1 ∈ ns') ∧ (⟨[some (.d (.nd .lst (sp.map spD))), some (.d (.int first)), some (.d (optD last)), some (.r 0), some (.d (.int one)), some (.d (optD other))], [.nd (.dct ((insN ns one).map Sum.inl)) (dpV (ns.map Sum.inl) es (.inl one) (.d (.bl true)))], 0⟩ : S) = ⟨[some (.d (.nd .lst (sp.map spD))), some (.d (.int first)), some (.d (optD last)), some (.r 0), some (.d (.int one)), some (.d (optD other))], [.nd (.dct (ns'.map Sum.inl)) es'], 0⟩ := fun a b => ⟨insN ns one, _, insN_nd I.nd, by
              have := dpV_len (k := .inl one) (e := E.d (.bl true)) (ks := ns.map Sum.inl) (es := es) (by rw [List.length_map, I.el])
              rw [dpK_int, List.length_map] at this
              exact this.symm, by have := I.nl; have := insN_len (ns := ns) (y := one); omega, insN_mem.mpr (.inl I.h0), fun y hy => (insN_mem.mp hy).elim (I.ok y) fun e => by rw [e]; exact ⟨by omega, b⟩, tk1 _ (fun p hp x y => insN_mem.mpr (.inl (I.one p hp x y))) fun _ _ => insN_mem.mpr (.inr rfl), fun p hp z x y u => insN_mem.mpr (.inl (I.two p hp z x y u)), rfl⟩
          have hsz : es.length < sizeLine := by have := I.nl; rw [I.el, sizeLine_eq]; omega
          cases last with
          | none =>
            walk_at "go"
            · rename_i h1
              refine .inr ⟨0, ns.map Sum.inl, es, .inl one, rfl, rfl, rfl, Nat.zero_le _, hsz, ?_⟩
              rw [dpK_int]
              walk_at "go"
              exact yes h1 rfl
            · rename_i h1
              exact no fun z => h1 z.1
          | some l =>
            walk_at "go"
            · rename_i h1 h2
              refine .inr ⟨0, ns.map Sum.inl, es, .inl one, rfl, rfl, rfl, Nat.zero_le _, hsz, ?_⟩
              rw [dpK_int]
              walk_at "go"
              exact yes h1 (by unfold leO; exact decide_eq_true h2)
            · rename_i h1 h2
              exact no fun z => h2 (by have := z.2; unfold leO at this; exact of_decide_eq_true this)
            · rename_i h1
              exact no fun z => h1 z.1
        · rintro s1 ⟨ns, es, h1, h2, h3, h4, h5, h6, h7, rfl⟩
          have tk2 : ∀ ns' : List Int, (∀ p ∈ sp.take i, ∀ z, p.2 = some z → first ≤ z → leO (z + 1) last = true → z + 1 ∈ ns') → (∀ z, other = some z → first ≤ z → leO (z + 1) last = true → z + 1 ∈ ns') → ∀ p ∈ sp.take (i + 1), ∀ z, p.2 = some z → first ≤ z → leO (z + 1) last = true → z + 1 ∈ ns' := fun ns' a b p hp => by
            rw [tk] at hp
            rcases List.mem_append.mp hp with hp | hp
            · exact a p hp
            · obtain rfl : p = _ := by simpa using hp
              exact b
          have hsz : es.length < sizeLine := by rw [h2, sizeLine_eq]; omega
          have no : (∀ z, other = some z → ¬ (first ≤ z ∧ leO (z + 1) last = true)) → ∃ (ns' : List Int) (es' : List E) (o4 o5 : Option D), SInv sp first last (i + 1) ns' es' ∧ (⟨[some (.d (.nd .lst (sp.map spD))), some (.d (.int first)), some (.d (optD last)), some (.r 0), some (.d (.int one)), some (.d (optD other))], [.nd (.dct (ns.map Sum.inl)) es], 0⟩ : S) = ⟨[some (.d (.nd .lst (sp.map spD))), some (.d (.int first)), some (.d (optD last)), some (.r 0), o4.map .d, o5.map .d], [.nd (.dct (ns'.map Sum.inl)) es'], 0⟩ := fun h => ⟨ns, es, some (.int one), some (optD other), ⟨h1, h2, by omega, h4, h5, h6, tk2 ns h7 fun z a b c => absurd ⟨b, c⟩ (h z a)⟩, rfl⟩
          have yes : ∀ z, other = some z → first ≤ z → leO (z + 1) last = true → ∃ (ns' : List Int) (es' : List E) (o4 o5 : Option D), SInv sp first last (i + 1) ns' es' ∧ (⟨[some (.d (.nd .lst (sp.map spD))), some (.d (.int first)), some (.d (optD last)), some (.r 0), some (.d (.int one)), some (.d (optD other))], [.nd (.dct ((insN ns (z + 1)).map Sum.inl)) (dpV (ns.map Sum.inl) es (.inl (z + 1)) (.d (.bl true)))], 0⟩ : S) = ⟨[some (.d (.nd .lst (sp.map spD))), some (.d (.int first)), some (.d (optD last)), some (.r 0), o4.map .d, o5.map .d], [.nd (.dct (ns'.map Sum.inl)) es'], 0⟩ := fun z a b c => ⟨insN ns (z + 1), _, some (.int one), some (optD other), ⟨insN_nd h1, by
              have := dpV_len (k := .inl (z + 1)) (e := E.d (.bl true)) (ks := ns.map Sum.inl) (es := es) (by rw [List.length_map, h2])
              rw [dpK_int, List.length_map] at this
              exact this.symm, by have := insN_len (ns := ns) (y := z + 1); omega, insN_mem.mpr (.inl h4), fun y hy => (insN_mem.mp hy).elim (h5 y) fun e => by rw [e]; exact ⟨by omega, c⟩, fun p hp x y => insN_mem.mpr (.inl (h6 p hp x y)), tk2 _ (fun p hp z x y u => insN_mem.mpr (.inl (h7 p hp z x y u))) fun z' a' _ _ => by rw [a] at a'; cases a'; exact insN_mem.mpr (.inr rfl)⟩, rfl⟩
          cases other with
          | none =>
            walk_at "go"
            exact no fun z a => by cases a
          | some z =>
            cases last with
            | none =>
              walk_at "go"
              · rename_i b
                refine .inr ⟨0, ns.map Sum.inl, es, .inl (z + 1), rfl, rfl, rfl, Nat.zero_le _, hsz, ?_⟩
                rw [dpK_int]
                walk_at "go"
                exact yes z rfl b rfl
              · rename_i b
                exact no fun z a c => by cases a; exact b c.1
            | some l =>
              walk_at "go"
              · rename_i b c
                refine .inr ⟨0, ns.map Sum.inl, es, .inl (z + 1), rfl, rfl, rfl, Nat.zero_le _, hsz, ?_⟩
                rw [dpK_int]
                walk_at "go"
                exact yes z rfl b (by rw [leO_lt]; exact decide_eq_true c)
              · rename_i b c
                exact no fun z a e => by cases a; have := e.2; rw [leO_lt] at this; exact c (of_decide_eq_true this)
              · rename_i b
                exact no fun z a c => by cases a; exact b c.1
    · rintro s' ⟨ns, es, o4, o5, I, rfl⟩
      refine jss_ret (je_sortedDI bx g_sorted ?_)
      walk_at "go"
      refine ⟨ns, es, rfl, by have := I.nl; rw [List.length_map] at this; omega, fun ys hp hs => ?_⟩
      have nd : ys.Nodup := hp.nodup_iff.mpr I.nd
      have tk : sp.take (sp.map spD).length = sp := by rw [List.length_map, List.take_length]
      have i1 := I.one
      have i2 := I.two
      rw [tk] at i1 i2
      refine k ys (by rw [hp.length_eq]; have := I.nl; rw [List.length_map] at this; omega) ⟨?_, hp.mem_iff.mpr I.h0, fun y hy => (I.ok y (hp.mem_iff.mp hy)).1, fun y hy => (I.ok y (hp.mem_iff.mp hy)).2, fun p a b c => hp.mem_iff.mpr (i1 p a b c), fun p a z b c d => hp.mem_iff.mpr (i2 p a z b c d)⟩
      exact (hs.and (List.nodup_iff_pairwise_ne.mp nd)).imp fun ⟨a, b⟩ => by omega
theorem ok_ends {f : Addr} {fd : FuncData} (C : Bs2 mg) (Fu : Fun K "ends" "ends" s_ends f fd) : FnOk P w K mg base CX0 1 f fd ["begun", "last"] (spP K R_ends) := by
  refine fn_P Fu sc_ends (fun ds post h => ?_) fun X F ds post hX hfn hH h => ?_
  · obtain ⟨_, _, rfl, _⟩ := h
    rfl
  · obtain ⟨ys, last, rfl, hl, k⟩ := h
    have bx := hX.bx
    have r0 := hX.nmR (i := 0) (x := "begun") rfl (by first | exact Or.inl (by decide +kernel) | exact Or.inr (Or.inl (by decide +kernel))); have w0 := hX.nmW (i := 0) (x := "begun") rfl (by decide +kernel); have r1 := hX.nmR (i := 1) (x := "last") rfl (by first | exact Or.inl (by decide +kernel) | exact Or.inr (Or.inl (by decide +kernel))); have w1 := hX.nmW (i := 1) (x := "last") rfl (by decide +kernel); have r2 := hX.nmR (i := 2) (x := "found") rfl (by first | exact Or.inl (by decide +kernel) | exact Or.inr (Or.inl (by decide +kernel))); have w2 := hX.nmW (i := 2) (x := "found") rfl (by decide +kernel); have r3 := hX.nmR (i := 3) (x := "at") rfl (by first | exact Or.inl (by decide +kernel) | exact Or.inr (Or.inl (by decide +kernel))); have w3 := hX.nmW (i := 3) (x := "at") rfl (by decide +kernel); have r4 := hX.nmR (i := 4) (x := "start") rfl (by first | exact Or.inl (by decide +kernel) | exact Or.inr (Or.inl (by decide +kernel))); have w4 := hX.nmW (i := 4) (x := "start") rfl (by decide +kernel); have g_enumerate := hX.glb (x := "enumerate") (by decide +kernel) C.b_enumerate; have g_len := hX.glb (x := "len") (by decide +kernel) C.b_len
    conv => (arg 3; whnf)
    have ly : ((ys.map D.int).map E.d).length = ys.length := by rw [List.length_map, List.length_map]
    refine jss_set w2 (je_own (jn_lst ?_)) (by rfl)
    walk_at "st"
    refine ⟨by decide, rfl, ?_⟩
    refine jss_for bx (fun i s => ∃ (o3 o4 : Option D), s = ⟨[some (.d (.nd .lst (ys.map .int))), some (.d (optD last)), some (.r 0), o3.map .d, o4.map .d], [.nd .lst (((List.range i).map (endD ys last)).map .d)], 0⟩) (ji_enum g_enumerate ?_) (by intro _; rfl)
    walk_at "go"
    refine ⟨⟨none, none, rfl⟩, ?_, ?_⟩
    · rintro i v s' hi ⟨d, hd, rfl⟩ ⟨o3, o4, rfl⟩
      have hi2 : i < ys.length := by rw [List.length_map] at hi; exact hi
      have ex : ys[i]? = some ys[i] := List.getElem?_eq_getElem hi2
      have eg : ys.getD i 0 = ys[i] := by rw [List.getD, ex]; rfl
      rw [List.getElem?_map, ex] at hd
      cases hd
      have fin : ∀ e : D, e = endD ys last i → ∃ (o3 o4 : Option D), (⟨[some (.d (.nd .lst (ys.map .int))), some (.d (optD last)), some (.r 0), some (.d (.int i)), some (.d (.int ys[i]))], [.nd .lst (((List.range i).map (endD ys last)).map .d ++ [.d e])], 0⟩ : S) = ⟨[some (.d (.nd .lst (ys.map .int))), some (.d (optD last)), some (.r 0), o3.map .d, o4.map .d], [.nd .lst (((List.range (i + 1)).map (endD ys last)).map .d)], 0⟩ := fun e he => ⟨some (.int i), some (.int ys[i]), by rw [he, List.range_succ, List.map_append, List.map_append]; rfl⟩
      iterate 6 walk_at "st"
      refine jss_expr (je_append ?_) (by rfl)
      walk_at "st"
      refine ⟨0, _, rfl, rfl, ?_⟩
      have hsz : ((((List.range i).map (endD ys last)).map E.d)).length < sizeLine := by rw [List.length_map, List.length_map, List.length_range, sizeLine_eq]; omega
      walk_at "go"
      · rename_i h
        rw [ly] at h
        have ex2 : ys[i + 1]? = some (ys[i + 1]'(by omega)) := List.getElem?_eq_getElem (by omega)
        have l1 : L2.atI ((ys.map D.int).map E.d) ((i : Int) + 1) = some (.d (.int (ys[i + 1]'(by omega)))) := by
          rw [show (i : Int) + 1 = ((i + 1 : Nat) : Int) from rfl]
          exact L2.atI_nat (by rw [List.getElem?_map, List.getElem?_map, ex2]; rfl)
        refine jx_seq rfl (.inl rfl) l1 ?_
        walk_at "go"
        refine ⟨hsz, ?_⟩
        walk_at "go"
        refine fin _ ?_
        unfold endD nxE
        rw [if_pos (by omega), eg, List.getD, ex2]; rfl
      · rename_i h
        rw [ly] at h
        refine ⟨hsz, ?_⟩
        walk_at "go"
        refine fin _ ?_
        unfold endD nxE
        rw [if_neg (by omega), eg]
    · rintro s' ⟨o3, o4, rfl⟩
      rw [List.length_map]
      walk_at "go"
      exact ⟨.lst, _, (List.range ys.length).map (endD ys last), rfl, dsOf_map _, Nat.zero_le _, k⟩
end
local macro_rules | `(tactic| walk_at "je") => `(tactic| ((with_reducible refine' je_fld ?_ ?zs); (case zs => rfl)))
local macro_rules | `(tactic| walk_at "st") => `(tactic| ((with_reducible show FldQ _ _ _ _ _); (refine' fq ?zc rfl ?zf ?zi ?ze ?_); (case zc => assumption); (case zf => decide +kernel); (case zi => rfl); (case ze => rfl)))
theorem atI_end {α : Type} {xs : List α} {v : α} : L2.atI (xs ++ [v]) (-1) = some v := L2.atI_last xs v
theorem ixN_last (n : Nat) : ixN (n + 1) (-1) = some n := by
  unfold ixN
  rw [if_neg (by decide), if_pos (by omega)]
  congr 1; omega
theorem ves_imm {α : Type} {g : α → D} (h : ∀ a, (g a).imm = true) : ∀ (l : List α), D.imms (l.map g) = true
  | [] => rfl
  | a :: l => by
    show (D.imm (g a) && D.imms (l.map g)) = true
    rw [h a, ves_imm h l]; rfl
theorem optD_imm : ∀ (o : Option Int), (optD o).imm = true
  | none => rfl
  | some _ => rfl
theorem pcD_imm (q : Pc) : (pcD q).imm = true := by
  show (true && (D.imm (optD q.e) && (D.imm (vvD q.v) && true))) = true
  rw [optD_imm, vvD_imm]; rfl
def R_init (C : Addr) : RS := fun ce es post => ∃ (d : Vv), ce = [.nd (.ins C []) []] ∧ es = [.r 0, .d (vvD d)] ∧ post (.d .non) [.nd (.ins C FSf) [.d (vvD d), .r 1], .nd .lst []]
theorem mo_init (C : Addr) : MonoS (R_init C) := fun ce es p q m ⟨a, b, c, h⟩ => ⟨a, b, c, m _ _ h⟩
abbrev factC (C : Addr) (d : Vv) (k : Nat) : Cell := .nd (.ins C FSf) [.d (vvD d), .r k]
abbrev rowsC (rs : List Row) : Cell := .nd .lst ((rs.map rowD).map .d)
def R_tell (C : Addr) : RS := fun ce es post => ∃ (d : Vv) (rs : List Row) (f : Int) (l : Option Int) (v : Vv), ce = [factC C d 1, rowsC rs] ∧ es = [.r 0, .d (.int f), .d (optD l), .d (vvD v)] ∧ rs.length ≤ 30 ∧ post (.d .non) [factC C d 1, rowsC (rs ++ [⟨f, l, v⟩])]
theorem mo_tell (C : Addr) : MonoS (R_tell C) := fun ce es p q m ⟨a, b, c, d, e, f, g, i, h⟩ => ⟨a, b, c, d, e, f, g, i, m _ _ h⟩
def R_at (C : Addr) : RP := fun ds post => ∃ (d : Vv) (rs : List Row) (p : Int), ds = [factD C d rs, .int p] ∧ post (.dat (vvD (valAt d rs p)))
theorem ap_at {C : Addr} {d : Vv} {rs : List Row} {p : Int} {post : Rt → Prop} (h : post (.dat (vvD (valAt d rs p)))) : R_at C [factD C d rs, .int p] post := ⟨d, rs, p, rfl, h⟩
theorem mo_at (C : Addr) : MonoP (R_at C) := fun ds p q m ⟨a, b, c, d, h⟩ => ⟨a, b, c, d, m _ h⟩
def R_spans (C : Addr) : RP := fun ds post => ∃ (d : Vv) (rs : List Row), ds = [factD C d rs] ∧ rs.length ≤ 30 ∧ post (.new .lst ((rs.map fun r => (r.f, r.l)).map spD))
theorem ap_spans {C : Addr} {d : Vv} {rs : List Row} {post : Rt → Prop} (hl : rs.length ≤ 30) (h : post (.new .lst ((rs.map fun r => (r.f, r.l)).map spD))) : R_spans C [factD C d rs] post := ⟨d, rs, rfl, hl, h⟩
theorem mo_spans (C : Addr) : MonoP (R_spans C) := fun ds p q m ⟨a, b, c, d, h⟩ => ⟨a, b, c, d, m _ h⟩
def R_pieces (C : Addr) : RP := fun ds post => ∃ (d : Vv) (rs : List Row) (first : Int) (last : Option Int), ds = [factD C d rs, .int first, optD last] ∧ rs.length ≤ 30 ∧ leO first last = true ∧ ∀ ps : List Pc, ps.length ≤ 62 → PcsOk (valAt d rs) last first ps → post (.new .lst (ps.map pcD))
theorem ap_pieces {C : Addr} {d : Vv} {rs : List Row} {first : Int} {last : Option Int} {post : Rt → Prop} (hl : rs.length ≤ 30) (h1 : leO first last = true) (h : ∀ ps : List Pc, ps.length ≤ 62 → PcsOk (valAt d rs) last first ps → post (.new .lst (ps.map pcD))) : R_pieces C [factD C d rs, .int first, optD last] post := ⟨d, rs, first, last, rfl, hl, h1, h⟩
theorem mo_pieces (C : Addr) : MonoP (R_pieces C) := fun ds p q m ⟨a, b, c, d, e, f, g, h⟩ => ⟨a, b, c, d, e, f, g, fun ps h1 h2 => m _ (h ps h1 h2)⟩
section
variable {P : Program} {w : World} {K : PySem.W.Frag} {mg : Str → Option Value} {base : Heap} {Cf : Addr}
theorem ok_init {f : Addr} {fd : FuncData} (T : ClF K Cf FSf) (Fu : Fun K "__init__" "Facts.__init__" s_Facts___init__ f fd) : FnOk P w K mg base CX0 1 f fd ["self", "default"] (spS K (R_init Cf)) := by
  refine fn_S Fu sc_Facts___init__ (fun ce es post h => ?_) fun X F ce es post hX hfn hH h => ?_
  · obtain ⟨_, _, rfl, _⟩ := h
    rfl
  · obtain ⟨d, rfl, rfl, k⟩ := h
    have bx := hX.bx
    have cF : ClF X.K Cf FSf := by rw [hX.eK]; exact T
    have r0 := hX.nmR (i := 0) (x := "self") rfl (by first | exact Or.inl (by decide +kernel) | exact Or.inr (Or.inl (by decide +kernel))); have w0 := hX.nmW (i := 0) (x := "self") rfl (by decide +kernel); have r1 := hX.nmR (i := 1) (x := "default") rfl (by first | exact Or.inl (by decide +kernel) | exact Or.inr (Or.inl (by decide +kernel))); have w1 := hX.nmW (i := 1) (x := "default") rfl (by decide +kernel)
    conv => (arg 3; whnf)
    refine jss_cons (js_fldN ?_ rfl)
    walk_at "go"
    refine ⟨0, Cf, FSf, [], [], rfl, rfl, cF, by decide +kernel, by decide, rfl, ?_⟩
    refine jss_cons (js_fldN (je_own (jn_lst ?_)) rfl)
    walk_at "st"
    refine ⟨by decide, rfl, ?_⟩
    walk_at "go"
    refine ⟨0, Cf, FSf, ["default"], _, rfl, rfl, cF, by decide +kernel, by decide, by decide +kernel, ?_⟩
    walk_at "go"
    exact k
theorem ok_tell {f : Addr} {fd : FuncData} (T : ClF K Cf FSf) (Fu : Fun K "tell" "Facts.tell" s_Facts_tell f fd) : FnOk P w K mg base CX0 1 f fd ["self", "first", "last", "value"] (spS K (R_tell Cf)) := by
  refine fn_S Fu sc_Facts_tell (fun ce es post h => ?_) fun X F ce es post hX hfn hH h => ?_
  · obtain ⟨_, _, _, _, _, _, rfl, _⟩ := h
    rfl
  · obtain ⟨d, rs, a, l, v, rfl, rfl, hl, k⟩ := h
    have bx := hX.bx
    have cF : ClF X.K Cf FSf := by rw [hX.eK]; exact T
    have r0 := hX.nmR (i := 0) (x := "self") rfl (by first | exact Or.inl (by decide +kernel) | exact Or.inr (Or.inl (by decide +kernel))); have w0 := hX.nmW (i := 0) (x := "self") rfl (by decide +kernel); have r1 := hX.nmR (i := 1) (x := "first") rfl (by first | exact Or.inl (by decide +kernel) | exact Or.inr (Or.inl (by decide +kernel))); have w1 := hX.nmW (i := 1) (x := "first") rfl (by decide +kernel); have r2 := hX.nmR (i := 2) (x := "last") rfl (by first | exact Or.inl (by decide +kernel) | exact Or.inr (Or.inl (by decide +kernel))); have w2 := hX.nmW (i := 2) (x := "last") rfl (by decide +kernel); have r3 := hX.nmR (i := 3) (x := "value") rfl (by first | exact Or.inl (by decide +kernel) | exact Or.inr (Or.inl (by decide +kernel))); have w3 := hX.nmW (i := 3) (x := "value") rfl (by decide +kernel)
    conv => (arg 3; whnf)
    refine jss_expr (je_append ?_) (by rfl)
    walk_at "go"
    refine ⟨1, _, rfl, rfl, ?_⟩
    walk_at "go"
    refine ⟨by rw [List.length_map, List.length_map, sizeLine_eq]; omega, ?_⟩
    walk_at "go"
    have ec : rowsC (rs ++ [⟨a, l, v⟩]) = .nd .lst ((rs.map rowD).map .d ++ [.d (rowD ⟨a, l, v⟩)]) := by
      show Cell.nd .lst (((rs ++ [_]).map rowD).map E.d) = _
      rw [List.map_append, List.map_append]; rfl
    rw [ec] at k
    exact k
theorem ok_at {f : Addr} {fd : FuncData} (C : Bs2 mg) (T : ClF K Cf FSf) (c_holds : CaP P w K mg base "holds" 1 R_holds) (Fu : Fun K "at" "Facts.at" s_Facts_at f fd) : FnOk P w K mg base CX0 2 f fd ["self", "period"] (spP K (R_at Cf)) := by
  refine fn_P Fu sc_Facts_at (fun ds post h => ?_) fun X F ds post hX hfn hH h => ?_
  · obtain ⟨_, _, _, rfl, _⟩ := h
    rfl
  · obtain ⟨d, rs, p, rfl, k⟩ := h
    have bx := hX.bx
    have cF : ClF X.K Cf FSf := by rw [hX.eK]; exact T
    have r0 := hX.nmR (i := 0) (x := "self") rfl (by first | exact Or.inl (by decide +kernel) | exact Or.inr (Or.inl (by decide +kernel))); have w0 := hX.nmW (i := 0) (x := "self") rfl (by decide +kernel); have r1 := hX.nmR (i := 1) (x := "period") rfl (by first | exact Or.inl (by decide +kernel) | exact Or.inr (Or.inl (by decide +kernel))); have w1 := hX.nmW (i := 1) (x := "period") rfl (by decide +kernel); have r2 := hX.nmR (i := 2) (x := "first") rfl (by first | exact Or.inl (by decide +kernel) | exact Or.inr (Or.inl (by decide +kernel))); have w2 := hX.nmW (i := 2) (x := "first") rfl (by decide +kernel); have r3 := hX.nmR (i := 3) (x := "last") rfl (by first | exact Or.inl (by decide +kernel) | exact Or.inr (Or.inl (by decide +kernel))); have w3 := hX.nmW (i := 3) (x := "last") rfl (by decide +kernel); have r4 := hX.nmR (i := 4) (x := "value") rfl (by first | exact Or.inl (by decide +kernel) | exact Or.inr (Or.inl (by decide +kernel))); have w4 := hX.nmW (i := 4) (x := "value") rfl (by decide +kernel); have g_reversed := hX.glb (x := "reversed") (by decide +kernel) C.b_reversed; have d_holds := c_holds.at hX (by decide +kernel)
    conv => (arg 3; whnf)
    refine jss_for bx (fun i s => (∀ q ∈ rs.drop (rs.length - i), hold q.f q.l p = false) ∧ ∃ (o2 o3 o4 : Option D), s = ⟨[some (.d (factD Cf d rs)), some (.d (.int p)), o2.map .d, o3.map .d, o4.map .d], [], 0⟩) (ji_rev g_reversed ?_) (by intro _; rfl)
    walk_at "go"
    refine ⟨⟨fun q hq => (by rw [Nat.sub_zero, List.drop_length] at hq; cases hq), none, none, none, rfl⟩, ?_, ?_⟩
    · rintro i v s' hi ⟨dd, hd, rfl⟩ ⟨hN, o2, o3, o4, rfl⟩
      rw [List.length_map, List.getElem?_map] at hd
      have hi2 : i < rs.length := by rw [List.length_map] at hi; exact hi
      have ex : rs[rs.length - 1 - i]? = some (rs[rs.length - 1 - i]'(by omega)) := List.getElem?_eq_getElem (by omega)
      have hdr : rs.drop (rs.length - 1 - i) = rs[rs.length - 1 - i]'(by omega) :: rs.drop (rs.length - i) := by
        rw [List.drop_eq_getElem_cons (by omega), show rs.length - 1 - i + 1 = rs.length - i by omega]
      rw [ex] at hd
      generalize rs[rs.length - 1 - i]'(by omega) = r at hd hdr
      cases hd
      walk_at "go"
      refine ap_holds ?_
      walk_at "go"
      · rename_i hb
        have e : valAt d rs p = r.v := by
          rw [← List.take_append_drop (rs.length - 1 - i) rs, hdr]
          exact valAt_last hb hN
        rw [e] at k
        exact k
      · rename_i hb
        refine ⟨fun q hq => ?_, some (.int r.f), some (optD r.l), some (vvD r.v), rfl⟩
        rw [show rs.length - (i + 1) = rs.length - 1 - i by omega, hdr] at hq
        rcases List.mem_cons.mp hq with rfl | hq
        · exact hb
        · exact hN q hq
    · rintro s' ⟨hN, o2, o3, o4, rfl⟩
      rw [List.length_map, Nat.sub_self, List.drop_zero] at hN
      rw [valAt_off hN] at k
      walk_at "go"
      exact k
theorem ok_spans {f : Addr} {fd : FuncData} (T : ClF K Cf FSf) (Fu : Fun K "spans" "Facts.spans" s_Facts_spans f fd) : FnOk P w K mg base CX0 1 f fd ["self"] (spP K (R_spans Cf)) := by
  refine fn_P Fu sc_Facts_spans (fun ds post h => ?_) fun X F ds post hX hfn hH h => ?_
  · obtain ⟨_, _, rfl, _⟩ := h
    rfl
  · obtain ⟨d, rs, rfl, hl, k⟩ := h
    have bx := hX.bx
    have cF : ClF X.K Cf FSf := by rw [hX.eK]; exact T
    have r0 := hX.nmR (i := 0) (x := "self") rfl (by first | exact Or.inl (by decide +kernel) | exact Or.inr (Or.inl (by decide +kernel))); have w0 := hX.nmW (i := 0) (x := "self") rfl (by decide +kernel)
    conv => (arg 3; whnf)
    refine jss_ret (je_lc3 bx (blk_ok hX (own := [("first", 1), ("last", 2), ("_", 3)]) (by decide +kernel)) (j1 := 1) (j2 := 2) (j3 := 3) (by decide) (by decide) (by decide) (fun Y hY => (hY.is hX).nmW rfl (by decide +kernel)) (fun Y hY => (hY.is hX).nmW rfl (by decide +kernel)) (fun Y hY => (hY.is hX).nmW rfl (by decide +kernel)) (ji_lst ?_) (by intro _; rfl))
    walk_at "go"
    refine ⟨rfl, by rw [List.length_map]; omega, fun i => ((.int (rs.getD i ⟨0, none, .n⟩).f), optD (rs.getD i ⟨0, none, .n⟩).l, vvD (rs.getD i ⟨0, none, .n⟩).v), fun i => spD ((rs.getD i ⟨0, none, .n⟩).f, (rs.getD i ⟨0, none, .n⟩).l), ?_, ?_, ?_⟩
    · rintro i e hi ⟨dd, hd, rfl⟩
      rw [List.getElem?_map] at hd
      cases ex : rs[i]? with
      | none => rw [ex] at hd; cases hd
      | some r =>
        rw [ex] at hd
        cases hd
        have hg : rs.getD i ⟨0, none, .n⟩ = r := by rw [List.getD_eq_getElem?_getD, ex]; rfl
        dsimp only
        rw [hg]
    · intro i acc hi Y hY
      generalize rs.getD i ⟨0, none, .n⟩ = r
      have hYX := hY.is hX; have bY := hYX.bx; have r1Y := hYX.nmR (i := 1) (x := "first") rfl (by first | exact Or.inl (by decide +kernel) | exact Or.inr (Or.inl (by decide +kernel)) | exact Or.inr (Or.inr (by decide +kernel))); have r2Y := hYX.nmR (i := 2) (x := "last") rfl (by first | exact Or.inl (by decide +kernel) | exact Or.inr (Or.inl (by decide +kernel)) | exact Or.inr (Or.inr (by decide +kernel)))
      walk_at "go"
      exact ⟨rfl, rfl⟩
    · have e : (List.range (rs.map rowD).length).map (fun i => spD ((rs.getD i ⟨0, none, .n⟩).f, (rs.getD i ⟨0, none, .n⟩).l)) = (rs.map fun r => (r.f, r.l)).map spD := by
        rw [List.length_map, List.map_map]
        exact range_getD (fun r : Row => spD (r.f, r.l)) ⟨0, none, .n⟩ rs
      rw [e]
      exact ⟨.lst, _, _, rfl, dsOf_map _, Nat.zero_le _, k⟩
end
local macro_rules | `(tactic| walk_at "je") => `(tactic| ((with_reducible refine' je_fld ?_ ?zs); (case zs => rfl)))
local macro_rules | `(tactic| walk_at "st") => `(tactic| ((with_reducible show FldQ _ _ _ _ _); (refine' fq ?zc rfl ?zf ?zi ?ze ?_); (case zc => assumption); (case zf => decide +kernel); (case zi => rfl); (case ze => rfl)))
def curE (ys : List Int) (last : Option Int) (i : Nat) : Option Int := if i < ys.length then some (ys.getD i 0 - 1) else last
theorem nxE_cur (ys : List Int) (last : Option Int) (i : Nat) : nxE ys last i = curE ys last (i + 1) := rfl
theorem getD_lt {ys : List Int} {i : Nat} (h : i < ys.length) : ys.getD i 0 = ys[i] := by rw [List.getD_eq_getElem?_getD, List.getElem?_eq_getElem h]; rfl
theorem srt_lt {ys : List Int} (h : ys.Pairwise (· < ·)) {i j : Nat} (hj : j < ys.length) (hij : i < j) : ys.getD i 0 < ys.getD j 0 := by
  rw [getD_lt hj, getD_lt (by omega)]
  exact List.pairwise_iff_getElem.mp h i j (by omega) hj hij
theorem leO_le {p q : Int} {l : Option Int} (h : leO q l = true) (hp : p ≤ q) : leO p l = true := by
  cases l with
  | none => rfl
  | some z =>
    unfold leO at h ⊢
    rw [decide_eq_true_eq] at h ⊢
    omega
section
variable {rs : List Row} {d : Vv} {first : Int} {last : Option Int} {ys : List Int} {i : Nat}
theorem StOk.mem (hS : StOk (rs.map fun r => (r.f, r.l)) first last ys) (hi : i < ys.length) : first ≤ ys.getD i 0 ∧ leO (ys.getD i 0) last = true := by
  rw [getD_lt hi]
  exact ⟨hS.ge _ (List.getElem_mem hi), hS.le _ (List.getElem_mem hi)⟩
theorem StOk.fst (hS : StOk (rs.map fun r => (r.f, r.l)) first last ys) : 0 < ys.length ∧ ys.getD 0 0 = first := by
  obtain ⟨j, hj, e⟩ := List.getElem_of_mem hS.h0
  have h0 : 0 < ys.length := by omega
  refine ⟨h0, ?_⟩
  have h1 := (hS.mem h0).1
  by_cases z : j = 0
  · subst z; rw [getD_lt h0]; exact e
  · have := srt_lt hS.so hj (show 0 < j by omega)
    rw [getD_lt hj, e] at this
    omega
theorem StOk.end_ge (hS : StOk (rs.map fun r => (r.f, r.l)) first last ys) (hi : i < ys.length) : ∀ l, nxE ys last i = some l → ys.getD i 0 ≤ l := fun l hl => by
  unfold nxE at hl
  by_cases h : i + 1 < ys.length
  · rw [if_pos h] at hl
    have := srt_lt hS.so h (Nat.lt_succ_self i)
    cases hl
    omega
  · rw [if_neg h] at hl
    have := (hS.mem hi).2
    rw [hl] at this
    unfold leO at this
    exact of_decide_eq_true this
theorem StOk.seg (hS : StOk (rs.map fun r => (r.f, r.l)) first last ys) (hi : i < ys.length) (q : Int) (hq : hold (ys.getD i 0) (nxE ys last i) q = true) : valAt d rs q = valAt d rs (ys.getD i 0) := by
  refine const_on (val := valAt d rs) (e := nxE ys last i) (fun q h1 h2 => ?_) q hq
  obtain ⟨_, h3⟩ := hold_iff.mp h2
  have m := hS.mem hi
  have hlast : leO q last = true := by
    unfold nxE at h3
    by_cases h : i + 1 < ys.length
    · rw [if_pos h] at h3
      unfold leO at h3
      have h3 := of_decide_eq_true h3
      exact leO_le (hS.mem h).2 (by omega)
    · rw [if_neg h] at h3; exact h3
  refine hS.change (by omega) hlast fun hm => ?_
  obtain ⟨j, hj, e⟩ := List.getElem_of_mem hm
  rw [← getD_lt hj] at e
  have hij : i < j := by
    rcases Nat.lt_trichotomy i j with z | z | z
    · exact z
    · subst z; omega
    · have := srt_lt hS.so hi z; omega
  unfold nxE at h3
  rw [if_pos (by omega)] at h3
  unfold leO at h3
  have h3 := of_decide_eq_true h3
  by_cases z : j = i + 1
  · subst z; omega
  · have := srt_lt hS.so hj (show i + 1 < j by omega); omega
end
section
variable {P : Program} {w : World} {K : PySem.W.Frag} {mg : Str → Option Value} {base : Heap} {Cf : Addr}
theorem ok_pieces {f : Addr} {fd : FuncData} (C : Bs2 mg) (T : ClF K Cf FSf) (c_ends : CaP P w K mg base "ends" 1 R_ends) (c_starts : CaP P w K mg base "starts" 1 R_starts) (m_spans : CaHP P w K mg base Cf "spans" 1 (R_spans Cf)) (m_at : CaHP P w K mg base Cf "at" 2 (R_at Cf)) (Fu : Fun K "pieces" "Facts.pieces" s_Facts_pieces f fd) : FnOk P w K mg base CX0 3 f fd ["self", "first", "last"] (spP K (R_pieces Cf)) := by
  refine fn_P Fu sc_Facts_pieces (fun ds post h => ?_) fun X F ds post hX hfn hH h => ?_
  · obtain ⟨_, _, _, _, rfl, _⟩ := h
    rfl
  · obtain ⟨d, rs, first, last, rfl, hl, hfl, k⟩ := h
    have bx := hX.bx
    have cF : ClF X.K Cf FSf := by rw [hX.eK]; exact T
    have r0 := hX.nmR (i := 0) (x := "self") rfl (by first | exact Or.inl (by decide +kernel) | exact Or.inr (Or.inl (by decide +kernel))); have w0 := hX.nmW (i := 0) (x := "self") rfl (by decide +kernel); have r1 := hX.nmR (i := 1) (x := "first") rfl (by first | exact Or.inl (by decide +kernel) | exact Or.inr (Or.inl (by decide +kernel))); have w1 := hX.nmW (i := 1) (x := "first") rfl (by decide +kernel); have r2 := hX.nmR (i := 2) (x := "last") rfl (by first | exact Or.inl (by decide +kernel) | exact Or.inr (Or.inl (by decide +kernel))); have w2 := hX.nmW (i := 2) (x := "last") rfl (by decide +kernel); have r3 := hX.nmR (i := 3) (x := "found") rfl (by first | exact Or.inl (by decide +kernel) | exact Or.inr (Or.inl (by decide +kernel))); have w3 := hX.nmW (i := 3) (x := "found") rfl (by decide +kernel); have r4 := hX.nmR (i := 4) (x := "start") rfl (by first | exact Or.inl (by decide +kernel) | exact Or.inr (Or.inl (by decide +kernel))); have w4 := hX.nmW (i := 4) (x := "start") rfl (by decide +kernel); have r5 := hX.nmR (i := 5) (x := "end") rfl (by first | exact Or.inl (by decide +kernel) | exact Or.inr (Or.inl (by decide +kernel))); have w5 := hX.nmW (i := 5) (x := "end") rfl (by decide +kernel); have r6 := hX.nmR (i := 6) (x := "value") rfl (by first | exact Or.inl (by decide +kernel) | exact Or.inr (Or.inl (by decide +kernel))); have w6 := hX.nmW (i := 6) (x := "value") rfl (by decide +kernel); have d_ends := c_ends.at hX (by decide +kernel); have d_starts := c_starts.at hX (by decide +kernel)
    conv => (arg 3; whnf)
    refine jss_set w3 (je_own (jn_lst ?_)) (by rfl)
    walk_at "st"
    refine ⟨by decide, rfl, ?_⟩
    refine jss_forE bx (ji_lst (je_popT ?_)) (by intro _; rfl)
    walk_at "st"
    refine ja_cons ?_ (by rfl)
    walk_at "st"
    refine ja_cons (je_popT (je_methD0 (m_spans.at hX) bx (by decide) ?_ rfl)) (by rfl)
    walk_at "st"
    refine ⟨FSf, _, rfl, by decide +kernel, _, rfl, ap_spans hl ?_⟩
    refine rtΦ_new ?_
    refine ⟨⟨[some (.d (factD Cf d rs)), some (.d (.int first)), some (.d (optD last)), some (.r 0), none, none, none], [.nd .lst []], 0⟩, .lst, _, rfl, rfl, Nat.le_refl _, rfl, ?_⟩
    walk_at "go"
    refine ap_starts (by rw [List.length_map]; exact hl) hfl fun ys yl hS => ?_
    walk_at "go"
    refine ap_ends yl ?_
    walk_at "go"
    refine ⟨⟨[some (.d (factD Cf d rs)), some (.d (.int first)), some (.d (optD last)), some (.r 0), none, none, none], [.nd .lst []], 0⟩, .lst, (List.range ys.length).map (endD ys last), rfl, rfl, Nat.le_refl _, rfl, ?_⟩
    obtain ⟨y0, yf⟩ := hS.fst
    refine ⟨_, rfl, fun i s => ∃ (ps : List Pc) (o4 o5 o6 : Option D), ps.length ≤ i ∧ (i = 0 → ps = []) ∧ (0 < i → PcsOk (valAt d rs) (curE ys last i) first ps) ∧ s = ⟨[some (.d (factD Cf d rs)), some (.d (.int first)), some (.d (optD last)), some (.r 0), o4.map .d, o5.map .d, o6.map .d], [.nd .lst ((ps.map pcD).map .d)], 0⟩, ⟨[], none, none, none, Nat.le_refl _, fun _ => rfl, fun z => absurd z (Nat.lt_irrefl _), rfl⟩, ?_, ?_⟩
    · rintro i v s' hi ⟨dd, hd, rfl⟩ ⟨ps, o4, o5, o6, hpl, hp0, hP, rfl⟩
      rw [List.length_map, List.length_range] at hi
      rw [List.getElem?_map, List.getElem?_range hi] at hd
      cases hd
      have hseg : ∀ q, hold (ys.getD i 0) (nxE ys last i) q = true → valAt d rs q = valAt d rs (ys.getD i 0) := fun q hq => hS.seg hi q hq
      have hge := hS.end_ge hi
      generalize hst : ys.getD i 0 = st at hseg hge
      have hE : endD ys last i = .nd .tup [.int st, optD (nxE ys last i)] := by unfold endD; rw [hst]
      rw [hE]
      iterate 6 walk_at "st"
      refine jss_set w6 (je_methD (m_at.at hX) bx (by decide) ?_ rfl) (by rfl)
      walk_at "st"
      refine ⟨FSf, _, rfl, by decide +kernel, ?_⟩
      walk_at "go"
      refine ap_at ?_
      refine rtΦ_dat ?_
      generalize hv : valAt d rs st = v at hseg
      have fin : ∀ ps' : List Pc, ps'.length ≤ i + 1 → PcsOk (valAt d rs) (nxE ys last i) first ps' → ∃ (ps : List Pc) (o4 o5 o6 : Option D), ps.length ≤ i + 1 ∧ (i + 1 = 0 → ps = []) ∧ (0 < i + 1 → PcsOk (valAt d rs) (curE ys last (i + 1)) first ps) ∧ (⟨[some (.d (factD Cf d rs)), some (.d (.int first)), some (.d (optD last)), some (.r 0), some (.d (.int st)), some (.d (optD (nxE ys last i))), some (.d (vvD v))], [.nd .lst ((ps'.map pcD).map .d)], 0⟩ : S) = ⟨[some (.d (factD Cf d rs)), some (.d (.int first)), some (.d (optD last)), some (.r 0), o4.map .d, o5.map .d, o6.map .d], [.nd .lst ((ps.map pcD).map .d)], 0⟩ := fun ps' a b => ⟨ps', some (.int st), some (optD (nxE ys last i)), some (vvD v), a, fun z => by omega, fun _ => by rw [← nxE_cur]; exact b, rfl⟩
      have hsz : ((ps.map pcD).map E.d).length < sizeLine := by rw [List.length_map, List.length_map, sizeLine_eq]; omega
      have app : ∀ q : Pc, ((ps ++ [q]).map pcD).map E.d = (ps.map pcD).map E.d ++ [.d (pcD q)] := fun q => by rw [List.map_append, List.map_append]; rfl
      refine jss_if1 (jt_w (jw_and (jt_lst ?_)))
      walk_at "st"
      refine ⟨_, rfl, ?_⟩
      rcases List.eq_nil_or_concat ps with hps | ⟨a, p, hps⟩
      · subst hps
        have hi0 : i = 0 := by
          rcases Nat.eq_zero_or_pos i with z | z
          · exact z
          · exact absurd (hP z) (by intro h; exact h)
        subst hi0
        refine L2.iteF ?_
        refine L2.iteF ?_
        refine jss_expr (je_append ?_) (by rfl)
        walk_at "st"
        refine ⟨0, _, rfl, rfl, ?_⟩
        walk_at "go"
        refine ⟨by rw [sizeLine_eq]; decide, ?_⟩
        walk_at "go"
        refine fin [⟨st, nxE ys last 0, v⟩] (Nat.le_refl _) ⟨by rw [← hst, yf], rfl, fun l hl' => ?_, fun q hq => ?_⟩
        · have := hge l hl'
          rw [← yf, hst]; exact this
        · rw [← yf, hst] at hq
          exact hseg q hq
      · rw [List.concat_eq_append] at hps
        subst hps
        have hi0 : 0 < i := by
          rcases Nat.eq_zero_or_pos i with z | z
          · exact absurd (hp0 z) (by simp)
          · exact z
        have hP := hP hi0
        have ec : curE ys last i = some (st - 1) := by unfold curE; rw [if_pos hi, hst]
        rw [ec] at hP
        rw [show (!(((a ++ [p]).map pcD).map E.d).isEmpty) = true by simp]
        have l1 : L2.atI (((a ++ [p]).map pcD).map E.d) (-1) = some (.d (pcD p)) := by
          rw [List.map_append, List.map_append]; exact atI_end
        refine L2.iteT ?_
        walk_at "go"
        refine jx_seq rfl (.inl rfl) l1 ?_
        walk_at "go"
        refine jr_eqV bx ?_
        walk_at "go"
        · rename_i he
          refine jx_seq rfl (.inl rfl) l1 ?_
          walk_at "go"
          refine .inl ⟨0, -1, _, a.length, rfl, rfl, rfl, by rw [List.length_map, List.length_map, List.length_append]; exact ixN_last _, ?_⟩
          walk_at "go"
          have eset : (((a ++ [p]).map pcD).map E.d).set a.length (.d (pcD ⟨p.s, nxE ys last i, p.v⟩)) = ((a ++ [(⟨p.s, nxE ys last i, p.v⟩ : Pc)]).map pcD).map E.d := by
            rw [List.map_append, List.map_append, List.map_append, List.map_append, List.set_append_right _ _ (by rw [List.length_map, List.length_map]; exact Nat.le_refl _), List.length_map, List.length_map, Nat.sub_self]; rfl
          subst he
          have z := fin (a ++ [⟨p.s, nxE ys last i, p.v⟩]) (by rw [List.length_append] at hpl ⊢; simp at hpl ⊢; omega) (PcsOk.grow hge hP fun q hq => hseg q hq)
          rw [← eset] at z
          exact z
        · rename_i he
          refine je_append ?_
          walk_at "st"
          refine ⟨0, _, rfl, rfl, ?_⟩
          walk_at "go"
          refine ⟨hsz, ?_⟩
          walk_at "go"
          have z := fin (a ++ [p] ++ [⟨st, nxE ys last i, v⟩]) (by rw [List.length_append] at hpl ⊢; simp at hpl ⊢; omega) (PcsOk.more hge hP (fun z => he (by rw [z])) fun q hq => hseg q hq)
          rw [app] at z
          exact z
    · rintro s' ⟨ps, o4, o5, o6, hpl, hp0, hP, rfl⟩
      rw [List.length_map, List.length_range] at hP hpl
      have hP := hP y0
      have ec : curE ys last ys.length = last := by unfold curE; rw [if_neg (Nat.lt_irrefl _)]
      rw [ec] at hP
      walk_at "go"
      exact ⟨.lst, _, ps.map pcD, rfl, dsOf_map _, Nat.zero_le _, k ps (by omega) hP⟩
end
def R_vac : RP := fun _ _ => False
theorem mo_vac : MonoP R_vac := fun _ _ _ _ h => h
def R_st : RP := fun ds post => ∃ x y : Str, ds = [.str x, .str y] ∧ post (.dat (.bl (decide (x = y))))
theorem ap_st {x y : Str} {post : Rt → Prop} (h : post (.dat (.bl (decide (x = y))))) : R_st [.str x, .str y] post := ⟨x, y, rfl, h⟩
theorem mo_st : MonoP R_st := fun ds p q m ⟨a, b, c, h⟩ => ⟨a, b, c, m _ h⟩
def R_sv : RP := fun ds post => ∃ x y : Vv, ds = [vvD x, vvD y] ∧ post (.dat (.bl (decide (x = y))))
theorem ap_sv {x y : Vv} {post : Rt → Prop} (h : post (.dat (.bl (decide (x = y))))) : R_sv [vvD x, vvD y] post := ⟨x, y, rfl, h⟩
theorem mo_sv : MonoP R_sv := fun ds p q m ⟨a, b, c, h⟩ => ⟨a, b, c, m _ h⟩
def R_isint : RP := fun ds post => ∃ x : Vv, ds = [vvD x] ∧ post (.dat (.bl (match x with | .i _ => true | _ => false)))
theorem mo_isint : MonoP R_isint := fun ds p q m ⟨a, b, h⟩ => ⟨a, b, m _ h⟩
theorem dec_i {a b : Int} : decide (Vv.i a = Vv.i b) = decide (a = b) := decide_eq_decide.mpr ⟨fun h => by cases h; rfl, fun h => by rw [h]⟩
theorem dec_aa : decide ((Str.ofString "l1" : Str) = Str.ofString "l1") = true := by decide +kernel
theorem dec_22 : decide ((Str.ofString "l2" : Str) = Str.ofString "l2") = true := by decide +kernel
theorem dec_yy : decide ((Str.ofString "none yet" : Str) = Str.ofString "none yet") = true := by decide +kernel
theorem dec_ay : decide ((Str.ofString "l1" : Str) = Str.ofString "none yet") = false := by decide +kernel
theorem dec_ya : decide ((Str.ofString "none yet" : Str) = Str.ofString "l1") = false := by decide +kernel
section
variable {P : Program} {w : World} {K : PySem.W.Frag} {mg : Str → Option Value} {base : Heap} {Cf : Addr}
theorem ok_st {f : Addr} {fd : FuncData} (C : Bs2 mg) (c_law_same : CaP P w K mg base "_law_same" 0 R_vac) (Fu : Fun K "_law_same" "_law_same" s_law_same f fd) : FnOk P w K mg base CX0 1 f fd ["answer", "due"] (spP K R_st) := by
  refine fn_P Fu sc_law_same (fun ds post h => ?_) fun X F ds post hX hfn hH h => ?_
  · obtain ⟨_, _, rfl, _⟩ := h
    rfl
  · obtain ⟨x, y, rfl, k⟩ := h
    have bx := hX.bx
    have r0 := hX.nmR (i := 0) (x := "answer") rfl (by first | exact Or.inl (by decide +kernel) | exact Or.inr (Or.inl (by decide +kernel))); have w0 := hX.nmC (i := 0) (x := "answer") rfl (by decide +kernel) (hfn _); have r1 := hX.nmR (i := 1) (x := "due") rfl (by first | exact Or.inl (by decide +kernel) | exact Or.inr (Or.inl (by decide +kernel))); have w1 := hX.nmC (i := 1) (x := "due") rfl (by decide +kernel) (hfn _); have g_isinstance := hX.glb (x := "isinstance") (by decide +kernel) C.b_isinstance; have g_dict := hX.glb (x := "dict") (by decide +kernel) C.b_dict; have g_len := hX.glb (x := "len") (by decide +kernel) C.b_len; have g_all := hX.glb (x := "all") (by decide +kernel) C.b_all; have g_list := hX.glb (x := "list") (by decide +kernel) C.b_list; have g_tuple := hX.glb (x := "tuple") (by decide +kernel) C.b_tuple; have g_range := hX.glb (x := "range") (by decide +kernel) C.b_range; have g_str := hX.glb (x := "str") (by decide +kernel) C.b_str; have g_int := hX.glb (x := "int") (by decide +kernel) C.b_int; have g_bool := hX.glb (x := "bool") (by decide +kernel) C.b_bool
    conv => (arg 3; whnf)
    walk_at "go"
    exact k
theorem ok_sv {f : Addr} {fd : FuncData} (C : Bs2 mg) (c_law_same : CaP P w K mg base "_law_same" 1 R_st) (Fu : Fun K "_law_same" "_law_same" s_law_same f fd) : FnOk P w K mg base CX0 2 f fd ["answer", "due"] (spP K R_sv) := by
  refine fn_P Fu sc_law_same (fun ds post h => ?_) fun X F ds post hX hfn hH h => ?_
  · obtain ⟨_, _, rfl, _⟩ := h
    rfl
  · obtain ⟨x, y, rfl, k⟩ := h
    have bx := hX.bx
    have r0 := hX.nmR (i := 0) (x := "answer") rfl (by first | exact Or.inl (by decide +kernel) | exact Or.inr (Or.inl (by decide +kernel))); have w0 := hX.nmC (i := 0) (x := "answer") rfl (by decide +kernel) (hfn _); have r1 := hX.nmR (i := 1) (x := "due") rfl (by first | exact Or.inl (by decide +kernel) | exact Or.inr (Or.inl (by decide +kernel))); have w1 := hX.nmC (i := 1) (x := "due") rfl (by decide +kernel) (hfn _); have g_isinstance := hX.glb (x := "isinstance") (by decide +kernel) C.b_isinstance; have g_dict := hX.glb (x := "dict") (by decide +kernel) C.b_dict; have g_len := hX.glb (x := "len") (by decide +kernel) C.b_len; have g_all := hX.glb (x := "all") (by decide +kernel) C.b_all; have g_list := hX.glb (x := "list") (by decide +kernel) C.b_list; have g_tuple := hX.glb (x := "tuple") (by decide +kernel) C.b_tuple; have g_range := hX.glb (x := "range") (by decide +kernel) C.b_range; have g_str := hX.glb (x := "str") (by decide +kernel) C.b_str; have g_int := hX.glb (x := "int") (by decide +kernel) C.b_int; have g_bool := hX.glb (x := "bool") (by decide +kernel) C.b_bool
    cases y with
    | n =>
      conv => (arg 3; whnf)
      walk_at "go"
      all_goals (cases x <;> dsimp only [vvD] <;> walk_at "go")
      all_goals exact k
    | i b =>
      conv => (arg 3; whnf)
      walk_at "go"
      all_goals (cases x <;> dsimp only [vvD] <;> walk_at "go")
      all_goals first | exact k | (rw [dec_i] at k; exact k)
    | a =>
      conv => (arg 3; whnf)
      walk_at "go"
      all_goals (cases x <;> dsimp only [vvD] <;> walk_at "go")
      all_goals first | exact k | (rw [dec_aa]; exact k) | (rw [dec_ya]; exact k)
    | y =>
      conv => (arg 3; whnf)
      walk_at "go"
      all_goals (cases x <;> dsimp only [vvD] <;> walk_at "go")
      all_goals first | exact k | (rw [dec_yy]; exact k) | (rw [dec_ay]; exact k)
    | t =>
      conv => (arg 3; whnf)
      walk_at "go"
      all_goals (cases x <;> dsimp only [vvD] <;> walk_at "go")
      all_goals first | exact k | contradiction | skip
      refine je_all bx g_all (je_lcP bx (blk_ok hX (own := [("k", 3)]) (by decide +kernel)) (j := 3) (by decide) (fun Y hY => (hY.is hX).nmW rfl (by decide +kernel)) (ji_range1 g_range ?_) (by intro _; rfl)) (by intro _ _; rfl)
      walk_at "go"
      · decide
      refine ⟨by decide, fun _ => .bl true, ?_, ?_⟩
      · rintro i v acc hi he Y hY
        obtain rfl : v = _ := he
        have hYX := hY.is hX; have bY := hYX.bx; have e_law_same := c_law_same.at hYX (by decide +kernel); have r0Y := hYX.nmR (i := 0) (x := "answer") rfl (by first | exact Or.inl (by decide +kernel) | exact Or.inr (Or.inl (by decide +kernel)) | exact Or.inr (Or.inr (by decide +kernel))); have r3Y := hYX.nmR (i := 3) (x := "k") rfl (by first | exact Or.inl (by decide +kernel) | exact Or.inr (Or.inl (by decide +kernel)) | exact Or.inr (Or.inr (by decide +kernel))); have r1Y := hYX.nmR (i := 1) (x := "due") rfl (by first | exact Or.inl (by decide +kernel) | exact Or.inr (Or.inl (by decide +kernel)) | exact Or.inr (Or.inr (by decide +kernel)))
        match i, hi with
        | 0, _ =>
          walk_at "go"
          refine ap_st ?_
          walk_at "go"
          exact ⟨by rw [dec_aa], rfl⟩
        | 1, _ =>
          walk_at "go"
          refine ap_st ?_
          walk_at "go"
          exact ⟨by rw [dec_22], rfl⟩
      · exact ⟨[true, true], rfl, k⟩
theorem ok_isint {f : Addr} {fd : FuncData} (C : Bs2 mg) (Fu : Fun K "_law_is_int" "_law_is_int" s_law_is_int f fd) : FnOk P w K mg base CX0 1 f fd ["value"] (spP K R_isint) := by
  refine fn_P Fu sc_law_is_int (fun ds post h => ?_) fun X F ds post hX hfn hH h => ?_
  · obtain ⟨_, rfl, _⟩ := h
    rfl
  · obtain ⟨x, rfl, k⟩ := h
    have bx := hX.bx
    have r0 := hX.nmR (i := 0) (x := "value") rfl (by first | exact Or.inl (by decide +kernel) | exact Or.inr (Or.inl (by decide +kernel))); have w0 := hX.nmW (i := 0) (x := "value") rfl (by decide +kernel); have g_isinstance := hX.glb (x := "isinstance") (by decide +kernel) C.b_isinstance; have g_int := hX.glb (x := "int") (by decide +kernel) C.b_int; have g_bool := hX.glb (x := "bool") (by decide +kernel) C.b_bool
    cases x <;> (conv => (arg 3; whnf)) <;> walk_at "go" <;> exact k
end
theorem je_min2 {X : Cx} {F : DL.Fr} {s : S} {a b : Expr} {Φ : E → S → Prop} {pos p : Pos} {B : Nat} (bx : Bx X B) (g : GlB X "min") (h : JE X F a s fun e1 s1 => JE X F b s1 fun e2 s2 => ∃ i j : Int, e1 = .d (.int i) ∧ e2 = .d (.int j) ∧ Φ (.d (.int (if j < i then j else i))) s2)
    (ns : NoStar a := by intro _ _; rfl) (ns2 : NoStar b := by intro _ _; rfl) : JE X F (.Call (.Name "min" p) [a, b] [] pos) s Φ :=
  je_cb (call_min2 bx.calm) g PyProof.Rows.boot_min (ja_cons (h.mono fun e1 s1 h1 => ja_cons (h1.mono fun e2 s2 ⟨i, j, q1, q2, q⟩ => ja_nil fun as G H σ vs Q c ves k => by
    subst q1 q2
    cases ves with
    | cons v1 t =>
      cases t with
      | cons v2 t =>
        cases t
        cases v1
        cases v2
        exact ⟨i, j, rfl, k _ as G H _ s2 c (Ext.refl _ _) (Rep.int _) q⟩) (ns2 _ _)) (ns _ _)) (he := ns _ _) (hpl := by rw [ns2]; rfl)
theorem ints_imms : ∀ (ps : List Int), D.imms (ps.map .int) = true
  | [] => rfl
  | p :: ps => by show (true && D.imms (ps.map .int)) = true; rw [ints_imms ps]; rfl
def SpanOk (f : Int) (l : Option Int) : Prop := 1 ≤ f ∧ f ≤ 1000000 ∧ leO f l = true
def R_span : RC1 := fun kd cds ds post => kd = .lst ∧ PoolD cds ∧ ds = [] ∧ ∀ (f : Int) (l : Option Int) cds', SpanOk f l → PoolD cds' → post (.dat (.nd .tup [.int f, optD l])) .lst cds'
theorem ap_span {cds : List D} {post : Rt → Kd → List D → Prop} (hp : PoolD cds) (h : ∀ (f : Int) (l : Option Int) cds', SpanOk f l → PoolD cds' → post (.dat (.nd .tup [.int f, optD l])) .lst cds') : R_span .lst cds [] post := ⟨rfl, hp, rfl, h⟩
theorem mo_span : MonoC R_span := fun kd cds ds p q m ⟨a, b, c, h⟩ => ⟨a, b, c, fun u1 u2 u3 h1 h2 => m _ _ _ (h u1 u2 u3 h1 h2)⟩
def R_lval : RP := fun ds post => ∃ (rs : List Row) (p : Int) (d : Vv), ds = [rowsD rs, .int p, vvD d] ∧ post (.dat (vvD (valAt d rs p)))
theorem ap_lval {rs : List Row} {p : Int} {d : Vv} {post : Rt → Prop} (h : post (.dat (vvD (valAt d rs p)))) : R_lval [rowsD rs, .int p, vvD d] post := ⟨rs, p, d, rfl, h⟩
theorem mo_lval : MonoP R_lval := fun ds p q m ⟨a, b, c, d, h⟩ => ⟨a, b, c, d, m _ h⟩
def R_per : RP := fun ds post => ∃ (rs : List Row) (f : Int) (l : Option Int), ds = [rowsD rs, .int f, optD l] ∧ rs.length ≤ 30 ∧ ∀ ps : List Int, ps.length ≤ 400 → (∀ p ∈ ps, hold f l p = true) → post (.new .lst (ps.map .int))
theorem ap_per {rs : List Row} {f : Int} {l : Option Int} {post : Rt → Prop} (hl : rs.length ≤ 30) (h : ∀ ps : List Int, ps.length ≤ 400 → (∀ p ∈ ps, hold f l p = true) → post (.new .lst (ps.map .int))) : R_per [rowsD rs, .int f, optD l] post := ⟨rs, f, l, rfl, hl, h⟩
theorem mo_per : MonoP R_per := fun ds p q m ⟨a, b, c, d, e, h⟩ => ⟨a, b, c, d, e, fun ps h1 h2 => m _ (h ps h1 h2)⟩
section
variable {P : Program} {w : World} {K : PySem.W.Frag} {mg : Str → Option Value} {base : Heap} {Cf : Addr}
theorem ok_lholds {f : Addr} {fd : FuncData} (Fu : Fun K "_law_holds" "_law_holds" s_law_holds f fd) : FnOk P w K mg base CX0 1 f fd ["first", "last", "period"] (spP K R_holds) := by
  refine fn_P Fu sc_law_holds (fun ds post h => ?_) fun X F ds post hX hfn hH h => ?_
  · obtain ⟨_, _, _, rfl, _⟩ := h
    rfl
  · obtain ⟨a, l, p, rfl, k⟩ := h
    have bx := hX.bx
    have r0 := hX.nmR (i := 0) (x := "first") rfl (by first | exact Or.inl (by decide +kernel) | exact Or.inr (Or.inl (by decide +kernel))); have w0 := hX.nmW (i := 0) (x := "first") rfl (by decide +kernel); have r1 := hX.nmR (i := 1) (x := "last") rfl (by first | exact Or.inl (by decide +kernel) | exact Or.inr (Or.inl (by decide +kernel))); have w1 := hX.nmW (i := 1) (x := "last") rfl (by decide +kernel); have r2 := hX.nmR (i := 2) (x := "period") rfl (by first | exact Or.inl (by decide +kernel) | exact Or.inr (Or.inl (by decide +kernel))); have w2 := hX.nmW (i := 2) (x := "period") rfl (by decide +kernel)
    conv => (arg 3; whnf)
    unfold hold at k
    cases l with
    | none =>
      walk_at "go"
      · rename_i h
        rw [decide_eq_true h] at k; exact k
      · rename_i h
        rw [decide_eq_false h] at k; exact k
    | some z =>
      unfold leO at k
      walk_at "go"
      · rename_i h
        rw [decide_eq_true h, Bool.true_and] at k; exact k
      · rename_i h
        rw [decide_eq_false h, Bool.false_and] at k; exact k
theorem ok_span {f : Addr} {fd : FuncData} (C : Bs2 mg) (c_law_draw : CaC P w K mg base "_law_draw" 3 R_draw) (Fu : Fun K "_law_span" "_law_span" s_law_span f fd) : FnOk P w K mg base CX0 4 f fd ["pool"] (spC K R_span) := by
  refine fn_C Fu sc_law_span (fun kd cds ds post h => ?_) fun X F kd cds ds post hX hfn hH h => ?_
  · obtain ⟨_, _, rfl, _⟩ := h
    rfl
  · obtain ⟨rfl, hp, rfl, k⟩ := h
    have bx := hX.bx
    have r0 := hX.nmR (i := 0) (x := "pool") rfl (by first | exact Or.inl (by decide +kernel) | exact Or.inr (Or.inl (by decide +kernel))); have w0 := hX.nmW (i := 0) (x := "pool") rfl (by decide +kernel); have r1 := hX.nmR (i := 1) (x := "first") rfl (by first | exact Or.inl (by decide +kernel) | exact Or.inr (Or.inl (by decide +kernel))); have w1 := hX.nmW (i := 1) (x := "first") rfl (by decide +kernel); have r2 := hX.nmR (i := 2) (x := "way") rfl (by first | exact Or.inl (by decide +kernel) | exact Or.inr (Or.inl (by decide +kernel))); have w2 := hX.nmW (i := 2) (x := "way") rfl (by decide +kernel); have d_law_draw := c_law_draw.at hX (by decide +kernel); have g_min := hX.glb (x := "min") (by decide +kernel) C.b_min
    conv => (arg 3; whnf)
    have e6 : (10 : Int) ^ Int.toNat 6 = 1000000 := by decide
    walk_at "go"
    refine ap_draw hp (lim_of (by decide) (by decide)) fun v cds1 v0 v1 hp1 => ?_
    refine rtΦ_dat ?_
    walk_at "go"
    refine jss_ifM (fun s1 => ∃ (cds : List D) (f : Int), PoolD cds ∧ 1 ≤ f ∧ f ≤ 1000000 ∧ s1 = ⟨[some (.r 0), some (.d (.int f)), none], [.nd .lst (cds.map .d)], 1⟩) ?_ ?_
    · walk_at "go"
      refine ap_draw hp1 (lim_of (by decide) (by decide)) fun v2 cds2 v20 v21 hp2 => ?_
      refine rtΦ_dat ?_
      walk_at "go"
      · rw [e6]
        refine ap_draw hp2 (lim_of (by decide) (by decide)) fun v3 cds3 v30 v31 hp3 => ?_
        refine rtΦ_dat ?_
        walk_at "go"
        exact ⟨cds3, 1 + v3, hp3, by omega, by omega, rfl⟩
      · exact ⟨cds2, 1 + v, hp2, by omega, by omega, rfl⟩
    · rintro s1 ⟨cds2, f, hp2, f0, f1, rfl⟩
      walk_at "go"
      refine ap_draw hp2 (lim_of (by decide) (by decide)) fun wy cds3 w0 w1 hp3 => ?_
      refine rtΦ_dat ?_
      walk_at "go"
      · exact ⟨.lst, _, _, rfl, dsOf_map _, k f none _ ⟨f0, f1, rfl⟩ hp3⟩
      · refine je_min2 bx g_min ?_
        walk_at "go"
        rw [e6]
        refine ap_draw hp3 (lim_of (by decide) (by decide)) fun v4 cds4 v40 v41 hp4 => ?_
        refine rtΦ_dat ?_
        walk_at "go"
        refine ⟨_, _, rfl, rfl, ?_⟩
        walk_at "go"
        exact ⟨.lst, _, _, rfl, dsOf_map _, k f (some (if f + v4 < 1000000 then f + v4 else 1000000)) _ ⟨f0, f1, by unfold leO; rw [decide_eq_true_eq]; split <;> omega⟩ hp4⟩
      · refine je_min2 bx g_min ?_
        walk_at "go"
        rw [e6]
        refine ap_draw hp3 (lim_of (by decide) (by decide)) fun v4 cds4 v40 v41 hp4 => ?_
        refine rtΦ_dat ?_
        walk_at "go"
        refine ⟨_, _, rfl, rfl, ?_⟩
        walk_at "go"
        exact ⟨.lst, _, _, rfl, dsOf_map _, k f (some (if f + v4 < 1000000 then f + v4 else 1000000)) _ ⟨f0, f1, by unfold leO; rw [decide_eq_true_eq]; split <;> omega⟩ hp4⟩
theorem ok_lval {f : Addr} {fd : FuncData} (C : Bs2 mg) (c_law_holds : CaP P w K mg base "_law_holds" 1 R_holds) (Fu : Fun K "_law_value" "_law_value" s_law_value f fd) : FnOk P w K mg base CX0 2 f fd ["rows", "period", "default"] (spP K R_lval) := by
  refine fn_P Fu sc_law_value (fun ds post h => ?_) fun X F ds post hX hfn hH h => ?_
  · obtain ⟨_, _, _, rfl, _⟩ := h
    rfl
  · obtain ⟨rs, p, d, rfl, k⟩ := h
    have bx := hX.bx
    have r0 := hX.nmR (i := 0) (x := "rows") rfl (by first | exact Or.inl (by decide +kernel) | exact Or.inr (Or.inl (by decide +kernel))); have w0 := hX.nmW (i := 0) (x := "rows") rfl (by decide +kernel); have r1 := hX.nmR (i := 1) (x := "period") rfl (by first | exact Or.inl (by decide +kernel) | exact Or.inr (Or.inl (by decide +kernel))); have w1 := hX.nmW (i := 1) (x := "period") rfl (by decide +kernel); have r2 := hX.nmR (i := 2) (x := "default") rfl (by first | exact Or.inl (by decide +kernel) | exact Or.inr (Or.inl (by decide +kernel))); have w2 := hX.nmW (i := 2) (x := "default") rfl (by decide +kernel); have r3 := hX.nmR (i := 3) (x := "found") rfl (by first | exact Or.inl (by decide +kernel) | exact Or.inr (Or.inl (by decide +kernel))); have w3 := hX.nmW (i := 3) (x := "found") rfl (by decide +kernel); have r4 := hX.nmR (i := 4) (x := "first") rfl (by first | exact Or.inl (by decide +kernel) | exact Or.inr (Or.inl (by decide +kernel))); have w4 := hX.nmW (i := 4) (x := "first") rfl (by decide +kernel); have r5 := hX.nmR (i := 5) (x := "last") rfl (by first | exact Or.inl (by decide +kernel) | exact Or.inr (Or.inl (by decide +kernel))); have w5 := hX.nmW (i := 5) (x := "last") rfl (by decide +kernel); have r6 := hX.nmR (i := 6) (x := "value") rfl (by first | exact Or.inl (by decide +kernel) | exact Or.inr (Or.inl (by decide +kernel))); have w6 := hX.nmW (i := 6) (x := "value") rfl (by decide +kernel); have d_law_holds := c_law_holds.at hX (by decide +kernel)
    conv => (arg 3; whnf)
    walk_at "st"; walk_at "st"
    refine jss_for bx (fun i s => ∃ (o4 o5 o6 : Option D), s = ⟨[some (.d (rowsD rs)), some (.d (.int p)), some (.d (vvD d)), some (.d (vvD (valAt d (rs.take i) p))), o4.map .d, o5.map .d, o6.map .d], [], 0⟩) (ji_lst ?_) (by intro _; rfl)
    walk_at "go"
    refine ⟨⟨none, none, none, rfl⟩, ?_, ?_⟩
    · rintro i v s' hi ⟨dd, hd, rfl⟩ ⟨o4, o5, o6, rfl⟩
      rw [List.getElem?_map] at hd
      cases ex : rs[i]? with
      | none => rw [ex] at hd; cases hd
      | some r =>
        rw [ex] at hd
        cases hd
        rw [valAt_take ex]
        walk_at "go"
        refine ap_holds ?_
        walk_at "go"
        · rename_i hb
          rw [if_pos hb]
          exact ⟨some (.int r.f), some (optD r.l), some (vvD r.v), rfl⟩
        · rename_i hb
          rw [hb, if_neg (by decide)]
          exact ⟨some (.int r.f), some (optD r.l), some (vvD r.v), rfl⟩
    · rintro s' ⟨o4, o5, o6, rfl⟩
      rw [List.length_map, List.take_length]
      walk_at "go"
      exact k
end
def oV : Option Int → Vv
  | none => .n
  | some z => .i z
theorem optD_oV : ∀ (o : Option Int), optD o = vvD (oV o)
  | none => rfl
  | some _ => rfl
theorem ap_so {x : Option Int} {post : Rt → Prop} (h : post (.dat (.bl true))) : R_sv [optD x, optD x] post := by
  rw [optD_oV]
  refine ap_sv ?_
  rw [decide_eq_true rfl]; exact h
theorem ap_vt {x : Vv} {post : Rt → Prop} (h : post (.dat (.bl true))) : R_sv [vvD x, vvD x] post := by
  refine ap_sv ?_
  rw [decide_eq_true rfl]; exact h
theorem ap_isint {z : Int} {post : Rt → Prop} (h : post (.dat (.bl true))) : R_isint [.int z] post := ⟨.i z, rfl, h⟩
def R_pr : RP := fun ds post => ∃ (ps : List Pc) (rs : List Row) (d : Vv) (first : Int) (last : Option Int), ds = [.nd .lst (ps.map pcD), rowsD rs, vvD d, .int first, optD last] ∧ rs.length ≤ 30 ∧ ps.length ≤ 62 ∧ PcsOk (valAt d rs) last first ps ∧ post (.dat (.bl true))
theorem ap_pr {ps : List Pc} {rs : List Row} {d : Vv} {first : Int} {last : Option Int} {post : Rt → Prop} (h1 : rs.length ≤ 30) (h2 : ps.length ≤ 62) (h3 : PcsOk (valAt d rs) last first ps) (h : post (.dat (.bl true))) : R_pr [.nd .lst (ps.map pcD), rowsD rs, vvD d, .int first, optD last] post := ⟨ps, rs, d, first, last, rfl, h1, h2, h3, h⟩
theorem mo_pr : MonoP R_pr := fun ds p q m ⟨a, b, c, d, e, f, g, i, j, h⟩ => ⟨a, b, c, d, e, f, g, i, j, m _ h⟩
theorem catI (xs ys : List Int) : (xs.map D.int) ++ (ys.map D.int) = (xs ++ ys).map D.int := by rw [List.map_append]
section
variable {P : Program} {w : World} {K : PySem.W.Frag} {mg : Str → Option Value} {base : Heap} {Cf : Addr}
theorem ok_per {f : Addr} {fd : FuncData} (C : Bs2 mg) (c_law_holds : CaP P w K mg base "_law_holds" 1 R_holds) (Fu : Fun K "_law_periods" "_law_periods" s_law_periods f fd) : FnOk P w K mg base CX0 2 f fd ["rows", "first", "last"] (spP K R_per) := by
  refine fn_P Fu sc_law_periods (fun ds post h => ?_) fun X F ds post hX hfn hH h => ?_
  · obtain ⟨_, _, _, rfl, _⟩ := h
    rfl
  · obtain ⟨rs, a, l, rfl, hl, k⟩ := h
    have bx := hX.bx
    have r0 := hX.nmR (i := 0) (x := "rows") rfl (by first | exact Or.inl (by decide +kernel) | exact Or.inr (Or.inl (by decide +kernel))); have w0 := hX.nmW (i := 0) (x := "rows") rfl (by decide +kernel); have r1 := hX.nmR (i := 1) (x := "first") rfl (by first | exact Or.inl (by decide +kernel) | exact Or.inr (Or.inl (by decide +kernel))); have w1 := hX.nmC (i := 1) (x := "first") rfl (by decide +kernel) (hfn _); have r2 := hX.nmR (i := 2) (x := "last") rfl (by first | exact Or.inl (by decide +kernel) | exact Or.inr (Or.inl (by decide +kernel))); have w2 := hX.nmC (i := 2) (x := "last") rfl (by decide +kernel) (hfn _); have r3 := hX.nmR (i := 3) (x := "found") rfl (by first | exact Or.inl (by decide +kernel) | exact Or.inr (Or.inl (by decide +kernel))); have w3 := hX.nmW (i := 3) (x := "found") rfl (by decide +kernel); have r4 := hX.nmR (i := 4) (x := "one") rfl (by first | exact Or.inl (by decide +kernel) | exact Or.inr (Or.inl (by decide +kernel))); have w4 := hX.nmW (i := 4) (x := "one") rfl (by decide +kernel); have r5 := hX.nmR (i := 5) (x := "other") rfl (by first | exact Or.inl (by decide +kernel) | exact Or.inr (Or.inl (by decide +kernel))); have w5 := hX.nmW (i := 5) (x := "other") rfl (by decide +kernel); have r6 := hX.nmR (i := 6) (x := "value") rfl (by first | exact Or.inl (by decide +kernel) | exact Or.inr (Or.inl (by decide +kernel))); have w6 := hX.nmW (i := 6) (x := "value") rfl (by decide +kernel)
    conv => (arg 3; whnf)
    walk_at "go"
    refine jss_for bx (fun i s => ∃ (fs : List Int) (o4 o5 o6 : Option D), fs.length ≤ 3 + 6 * i ∧ s = ⟨[some (.d (rowsD rs)), some (.d (.int a)), some (.d (optD l)), some (.d (.nd .lst (fs.map .int))), o4.map .d, o5.map .d, o6.map .d, none], [], 0⟩) (ji_lst ?_) (by intro _; rfl)
    walk_at "go"
    refine ⟨⟨[a, a + 1, a + 7], none, none, none, by show 3 ≤ _; omega, rfl⟩, ?_, ?_⟩
    · rintro i v s' hi ⟨dd, hd, rfl⟩ ⟨fs, o4, o5, o6, hfl, rfl⟩
      have hi : i < rs.length := by rw [List.length_map] at hi; exact hi
      rw [List.getElem?_map] at hd
      cases ex : rs[i]? with
      | none => rw [ex] at hd; cases hd
      | some r =>
        rw [ex] at hd
        cases hd
        obtain ⟨one, other, v⟩ := r
        cases other with
        | none =>
          walk_at "go"
          refine jr_cat (ds1 := fs.map D.int) (ds2 := [one - 1, one, one + 1].map D.int) rfl rfl (by rw [List.length_map, sizeLine_eq]; simp; omega) ?_
          rw [catI]
          walk_at "go"
          exact ⟨_, some (.int one), some .non, some (vvD v), by rw [List.length_append]; simp; omega, rfl⟩
        | some z =>
          walk_at "go"
          refine jr_cat (ds1 := fs.map D.int) (ds2 := [one - 1, one, one + 1].map D.int) rfl rfl (by rw [List.length_map, sizeLine_eq]; simp; omega) ?_
          rw [catI]
          walk_at "go"
          refine jr_cat (ds1 := (fs ++ [one - 1, one, one + 1]).map D.int) (ds2 := [z - 1, z, z + 1].map D.int) rfl rfl (by rw [List.length_map, List.length_append, sizeLine_eq]; simp; omega) ?_
          rw [catI]
          walk_at "go"
          exact ⟨_, some (.int one), some (.int z), some (vvD v), by rw [List.length_append, List.length_append]; simp; omega, rfl⟩
    · rintro s' ⟨fs, o4, o5, o6, hfl, rfl⟩
      rw [List.length_map] at hfl
      refine jss_ifM (fun s1 => ∃ (fs : List Int), fs.length ≤ 5 + 6 * rs.length ∧ s1 = ⟨[some (.d (rowsD rs)), some (.d (.int a)), some (.d (optD l)), some (.d (.nd .lst (fs.map .int))), o4.map .d, o5.map .d, o6.map .d, none], [], 0⟩) ?_ ?_
      · cases l with
        | none =>
          walk_at "go"
          exact ⟨fs, by omega, rfl⟩
        | some z =>
          walk_at "go"
          refine jr_cat (ds1 := fs.map D.int) (ds2 := [z - 1, z].map D.int) rfl rfl (by rw [List.length_map, sizeLine_eq]; simp; omega) ?_
          rw [catI]
          walk_at "go"
          exact ⟨_, by rw [List.length_append]; simp; omega, rfl⟩
      · rintro s1 ⟨fs, hfl, rfl⟩
        refine jss_ret (je_lc bx (blk_ok hX (own := [("period", 7)]) (by decide +kernel)) (j := 7) (by decide) (fun Y hY => (hY.is hX).nmW rfl (by decide +kernel)) (ji_lst ?_) (by intro _; rfl))
        walk_at "go"
        refine ⟨fun i acc s' => ∃ ps : List Int, acc = (ps.map D.int).map E.d ∧ ps.length ≤ i ∧ (∀ p ∈ ps, hold a l p = true) ∧ s' = ⟨[some (.d (rowsD rs)), some (.d (.int a)), some (.d (optD l)), some (.d (.nd .lst (fs.map .int))), o4.map .d, o5.map .d, o6.map .d, none], [.nd .lst acc], 0⟩, ⟨[], rfl, Nat.le_refl _, fun p hp => (by cases hp), rfl⟩, ?_, ?_⟩
        · rintro i v acc s' hi ⟨dd, hd, rfl⟩ ⟨ps, rfl, hpl, hps, rfl⟩
          rw [List.length_map] at hi
          rw [List.getElem?_map] at hd
          cases ex : fs[i]? with
          | none => rw [ex] at hd; cases hd
          | some p =>
            rw [ex] at hd
            cases hd
            refine ⟨rfl, fun Y hY => ?_⟩
            show JT Y F _ _ _
            have hYX := hY.is hX; have bY := hYX.bx; have r7Y := hYX.nmR (i := 7) (x := "period") rfl (by first | exact Or.inl (by decide +kernel) | exact Or.inr (Or.inl (by decide +kernel)) | exact Or.inr (Or.inr (by decide +kernel))); have e_law_holds := c_law_holds.at hYX (by decide +kernel); have r1Y := hYX.nmR (i := 1) (x := "first") rfl (by first | exact Or.inl (by decide +kernel) | exact Or.inr (Or.inl (by decide +kernel)) | exact Or.inr (Or.inr (by decide +kernel))); have r2Y := hYX.nmR (i := 2) (x := "last") rfl (by first | exact Or.inl (by decide +kernel) | exact Or.inr (Or.inl (by decide +kernel)) | exact Or.inr (Or.inr (by decide +kernel)))
            walk_at "go"
            refine ap_holds ?_
            walk_at "go"
            · rename_i hb
              intro Y2 hY2
              have r7Z := (hY2.is hX).nmR (i := 7) (x := "period") rfl (by first | exact Or.inl (by decide +kernel) | exact Or.inr (Or.inl (by decide +kernel)) | exact Or.inr (Or.inr (by decide +kernel)))
              walk_at "go"
              refine ⟨rfl, by rw [List.length_map, List.length_map, sizeLine_eq]; omega, ps ++ [p], by rw [List.map_append, List.map_append]; rfl, by rw [List.length_append]; simp; omega, fun q hq => ?_, rfl⟩
              rcases List.mem_append.mp hq with hq | hq
              · exact hps q hq
              · obtain rfl : q = p := by simpa using hq
                exact hb
            · rename_i hb
              exact ⟨by omega, hps, rfl⟩
        · rintro acc s' ⟨ps, rfl, hpl, hps, rfl⟩
          rw [List.length_map] at hpl
          exact ⟨.lst, _, ps.map D.int, rfl, dsOf_map _, Nat.zero_le _, k ps (by omega) hps⟩
theorem ok_pr {f : Addr} {fd : FuncData} (C : Bs2 mg) (c_law_same : CaP P w K mg base "_law_same" 2 R_sv) (c_law_is_int : CaP P w K mg base "_law_is_int" 1 R_isint) (c_law_periods : CaP P w K mg base "_law_periods" 2 R_per) (c_law_value : CaP P w K mg base "_law_value" 2 R_lval) (Fu : Fun K "_law_pieces_right" "_law_pieces_right" s_law_pieces_right f fd) : FnOk P w K mg base CX0 3 f fd ["told", "rows", "default", "first", "last"] (spP K R_pr) := by
  refine fn_P Fu sc_law_pieces_right (fun ds post h => ?_) fun X F ds post hX hfn hH h => ?_
  · obtain ⟨_, _, _, _, _, rfl, _⟩ := h
    rfl
  · obtain ⟨ps, rs, d, first, last, rfl, hrl, hpl, hP, k⟩ := h
    have bx := hX.bx
    have r0 := hX.nmR (i := 0) (x := "told") rfl (by first | exact Or.inl (by decide +kernel) | exact Or.inr (Or.inl (by decide +kernel))); have w0 := hX.nmW (i := 0) (x := "told") rfl (by decide +kernel); have r1 := hX.nmR (i := 1) (x := "rows") rfl (by first | exact Or.inl (by decide +kernel) | exact Or.inr (Or.inl (by decide +kernel))); have w1 := hX.nmW (i := 1) (x := "rows") rfl (by decide +kernel); have r2 := hX.nmR (i := 2) (x := "default") rfl (by first | exact Or.inl (by decide +kernel) | exact Or.inr (Or.inl (by decide +kernel))); have w2 := hX.nmW (i := 2) (x := "default") rfl (by decide +kernel); have r3 := hX.nmR (i := 3) (x := "first") rfl (by first | exact Or.inl (by decide +kernel) | exact Or.inr (Or.inl (by decide +kernel))); have w3 := hX.nmW (i := 3) (x := "first") rfl (by decide +kernel); have r4 := hX.nmR (i := 4) (x := "last") rfl (by first | exact Or.inl (by decide +kernel) | exact Or.inr (Or.inl (by decide +kernel))); have w4 := hX.nmW (i := 4) (x := "last") rfl (by decide +kernel); have r5 := hX.nmR (i := 5) (x := "start") rfl (by first | exact Or.inl (by decide +kernel) | exact Or.inr (Or.inl (by decide +kernel))); have w5 := hX.nmW (i := 5) (x := "start") rfl (by decide +kernel); have r6 := hX.nmR (i := 6) (x := "at") rfl (by first | exact Or.inl (by decide +kernel) | exact Or.inr (Or.inl (by decide +kernel))); have w6 := hX.nmW (i := 6) (x := "at") rfl (by decide +kernel); have r7 := hX.nmR (i := 7) (x := "piece") rfl (by first | exact Or.inl (by decide +kernel) | exact Or.inr (Or.inl (by decide +kernel))); have w7 := hX.nmW (i := 7) (x := "piece") rfl (by decide +kernel); have r8 := hX.nmR (i := 8) (x := "period") rfl (by first | exact Or.inl (by decide +kernel) | exact Or.inr (Or.inl (by decide +kernel))); have w8 := hX.nmW (i := 8) (x := "period") rfl (by decide +kernel); have g_isinstance := hX.glb (x := "isinstance") (by decide +kernel) C.b_isinstance; have g_list := hX.glb (x := "list") (by decide +kernel) C.b_list; have g_len := hX.glb (x := "len") (by decide +kernel) C.b_len; have g_range := hX.glb (x := "range") (by decide +kernel) C.b_range; have g_tuple := hX.glb (x := "tuple") (by decide +kernel) C.b_tuple; have d_law_same := c_law_same.at hX (by decide +kernel); have d_law_is_int := c_law_is_int.at hX (by decide +kernel); have d_law_periods := c_law_periods.at hX (by decide +kernel); have d_law_value := c_law_value.at hX (by decide +kernel)
    conv => (arg 3; whnf)
    have lp : ((ps.map pcD).map E.d).length = ps.length := by rw [List.length_map, List.length_map]
    have hne : 0 < ps.length := by
      cases ps with
      | nil => exact absurd hP id
      | cons => simp
    walk_at "go"
    refine jss_for bx (fun i s => ∃ (st : Int) (o6 o7 o8 : Option D), (i < ps.length → PcsOk (valAt d rs) last st (ps.drop i)) ∧ s = ⟨[some (.d (.nd .lst (ps.map pcD))), some (.d (rowsD rs)), some (.d (vvD d)), some (.d (.int first)), some (.d (optD last)), some (.d (.int st)), o6.map .d, o7.map .d, o8.map .d], [], 0⟩) (ji_range1 g_range ?_) (by intro _; rfl)
    walk_at "go"
    refine ⟨by rw [lp]; omega, ⟨first, none, none, none, fun _ => by rw [List.drop_zero]; exact hP, rfl⟩, ?_, ?_⟩
    · rintro i v s' hi he ⟨st, o6, o7, o8, hQ, rfl⟩
      obtain rfl : v = _ := he
      have hi2 : i < ps.length := by rw [lp] at hi; omega
      have hQ := hQ hi2
      have e1 : ps[i]? = some ps[i] := List.getElem?_eq_getElem hi2
      rw [List.drop_eq_getElem_cons hi2] at hQ
      generalize ps[i] = p at e1 hQ
      have l1 : L2.atI ((ps.map pcD).map E.d) (i : Int) = some (.d (pcD p)) := L2.atI_nat (by rw [List.getElem?_map, List.getElem?_map, e1]; rfl)
      have hdl : (ps.drop (i + 1)).length = ps.length - (i + 1) := List.length_drop
      have hst : p.s = st := by
        cases hd : ps.drop (i + 1) with
        | nil => rw [hd] at hQ; exact hQ.1
        | cons => rw [hd] at hQ; exact hQ.1
      have zi : (0 : Int) + i = i := Int.zero_add _
      rw [zi]
      walk_at "go"
      refine jx_seq rfl (.inl rfl) l1 ?_
      walk_at "go"
      · rename_i hb; exact absurd rfl hb
      show R_sv [vvD (.i p.s), vvD (.i st)] _
      rw [hst]
      refine ap_vt ?_
      walk_at "go"
      refine jss_ifM (fun s1 => ∃ st' : Int, (i + 1 < ps.length → PcsOk (valAt d rs) last st' (ps.drop (i + 1))) ∧ (∀ q, hold p.s p.e q = true → valAt d rs q = p.v) ∧ s1 = ⟨[some (.d (.nd .lst (ps.map pcD))), some (.d (rowsD rs)), some (.d (vvD d)), some (.d (.int first)), some (.d (optD last)), some (.d (.int st')), some (.d (.int i)), some (.d (pcD p)), o8.map .d], [], 0⟩) ?_ ?_
      · cases hd : ps.drop (i + 1) with
        | nil =>
          rw [hd] at hQ hdl
          obtain ⟨h1, h2, h3, h4⟩ := hQ
          have hdl : 0 = ps.length - (i + 1) := hdl
          walk_at "go"
          rw [h2]
          refine ap_so ?_
          walk_at "go"
          exact ⟨st, fun z => absurd z (by omega), fun q hq => h4 q (by rw [← h1]; exact hq), rfl⟩
        | cons p2 r =>
          rw [hd] at hQ hdl
          obtain ⟨h1, z, h2, h3, h4, h5, h6, h7⟩ := hQ
          have hdl : r.length + 1 = ps.length - (i + 1) := hdl
          have e2 : ps[i + 1]? = some p2 := by
            have := congrArg (fun l => l[0]?) hd
            simpa using this
          have l2 : L2.atI ((ps.map pcD).map E.d) ((i : Int) + 1) = some (.d (pcD p2)) := by
            rw [show (i : Int) + 1 = ((i + 1 : Nat) : Int) from rfl]
            exact L2.atI_nat (by rw [List.getElem?_map, List.getElem?_map, e2]; rfl)
          have fin : ∃ st' : Int, (i + 1 < ps.length → PcsOk (valAt d rs) last st' (p2 :: r)) ∧ (∀ q, hold p.s p.e q = true → valAt d rs q = p.v) ∧ (⟨[some (.d (.nd .lst (ps.map pcD))), some (.d (rowsD rs)), some (.d (vvD d)), some (.d (.int first)), some (.d (optD last)), some (.d (.int (z + 1))), some (.d (.int i)), some (.d (pcD p)), o8.map .d], [], 0⟩ : S) = ⟨[some (.d (.nd .lst (ps.map pcD))), some (.d (rowsD rs)), some (.d (vvD d)), some (.d (.int first)), some (.d (optD last)), some (.d (.int st')), some (.d (.int i)), some (.d (pcD p)), o8.map .d], [], 0⟩ := ⟨z + 1, fun _ => h7, fun q hq => by
            obtain ⟨q1, q2⟩ := hold_iff.mp hq
            rw [h2] at q2
            unfold leO at q2
            exact h5 q (by omega) (of_decide_eq_true q2), rfl⟩
          obtain ⟨ps_, pe_, pv_⟩ := p
          have h2 : pe_ = some z := h2
          subst h2
          have n1 : ¬ z < ps_ := by have h1 : ps_ = st := h1; omega
          cases last with
          | none =>
            walk_at "go"
            refine ap_isint ?_
            walk_at "go"
            refine jx_seq rfl (.inl rfl) l2 ?_
            walk_at "go"
            refine ap_sv ?_
            rw [decide_eq_false h6]
            walk_at "go"
            exact fin
          | some l =>
            have hzl := h4 l rfl
            walk_at "go"
            refine ap_isint ?_
            walk_at "go"
            refine jx_seq rfl (.inl rfl) l2 ?_
            walk_at "go"
            refine ap_sv ?_
            rw [decide_eq_false h6]
            walk_at "go"
            exact fin
      · rintro s1 ⟨st', hN, hV, rfl⟩
        refine jss_forE bx (ji_lst (je_popT ?_)) (by intro _; rfl)
        walk_at "go"
        refine ap_per hrl fun qs ql hq => ?_
        refine rtX_P (rtΦ_new ?_) rfl
        refine ⟨⟨[some (.d (.nd .lst (ps.map pcD))), some (.d (rowsD rs)), some (.d (vvD d)), some (.d (.int first)), some (.d (optD last)), some (.d (.int st')), some (.d (.int i)), some (.d (pcD p)), o8.map .d], [], 0⟩, .lst, qs.map D.int, rfl, rfl, Nat.le_refl _, by cases o8 <;> rfl, ?_⟩
        refine ⟨_, rfl, fun j s => ∃ o8 : Option D, s = ⟨[some (.d (.nd .lst (ps.map pcD))), some (.d (rowsD rs)), some (.d (vvD d)), some (.d (.int first)), some (.d (optD last)), some (.d (.int st')), some (.d (.int i)), some (.d (pcD p)), o8.map .d], [], 0⟩, ⟨o8, rfl⟩, ?_, ?_⟩
        · rintro j v s' hj ⟨dd, hd, rfl⟩ ⟨o8, rfl⟩
          rw [List.getElem?_map] at hd
          cases ex : qs[j]? with
          | none => rw [ex] at hd; cases hd
          | some q =>
            rw [ex] at hd
            cases hd
            have hv := hV q (hq q (List.mem_of_getElem? ex))
            walk_at "go"
            refine ap_lval ?_
            walk_at "go"
            rw [hv]
            refine ap_vt ?_
            walk_at "go"
            exact ⟨some (.int q), rfl⟩
        · rintro s' ⟨o8, rfl⟩
          walk_at "go"
          exact ⟨st', some (.int i), some (pcD p), o8, hN, rfl⟩
    · rintro s' ⟨st, o6, o7, o8, hQ, rfl⟩
      walk_at "go"
      exact k
end
theorem vw_fact {s : S} {C : Addr} {d : Vv} {rs : List Row} {a b : Nat} (h1 : nth s.ce a = some (factC C d b)) (h2 : nth s.ce b = some (rowsC rs)) (ds : List D) : vwL (s.vw 2) (.r a :: ds.map .d) = some (factD C d rs :: ds) :=
  vwL_cons (vw_r h1 (vwL_cons vw_d (vwL_cons (vw_r h2 (vwL_ds _)) vwL_nil))) (vwL_ds ds)
theorem tidy_a {C : Addr} {d : Vv} (cds : List D) (rs : List Row) (sl : List (Option E)) (h : sl.all (E.ltB 4) = true) : TidyB ⟨sl, [.nd .lst (cds.map .d), factC C d 2, rowsC rs, rowsC rs], 4⟩ = true := by
  unfold TidyB
  simp only [Bool.and_eq_true, decide_eq_true_eq]
  refine ⟨⟨h, ?_⟩, by show 4 ≤ 4; decide⟩
  show ((cds.map E.d).all (E.lt 4) && (true && (((rs.map rowD).map E.d).all (E.lt 4) && (((rs.map rowD).map E.d).all (E.lt 4) && true)))) = true
  rw [lt_ds, lt_ds]; rfl
def R_asked (C : Addr) : RS := fun ce es post => ∃ (cds : List D) (d : Vv) (rs : List Row), ce = [.nd .lst (cds.map .d), factC C d 2, rowsC rs, rowsC rs] ∧ es = [.r 0, .r 1, .r 3, .d (vvD d)] ∧ PoolD cds ∧ rs.length ≤ 30 ∧ ∀ cds', PoolD cds' → post (.d (.bl true)) [.nd .lst (cds'.map .d), factC C d 2, rowsC rs, rowsC rs]
theorem mo_asked (C : Addr) : MonoS (R_asked C) := fun ce es p q m ⟨a, b, c, d, e, f, g, h⟩ => ⟨a, b, c, d, e, f, g, fun u h1 => m _ _ (h u h1)⟩
section
variable {P : Program} {w : World} {K : PySem.W.Frag} {mg : Str → Option Value} {base : Heap} {Cf : Addr}
theorem ok_asked {f : Addr} {fd : FuncData} (C : Bs2 mg) (T : ClF K Cf FSf) (c_law_periods : CaP P w K mg base "_law_periods" 2 R_per) (c_law_draw : CaC P w K mg base "_law_draw" 3 R_draw) (c_law_same : CaP P w K mg base "_law_same" 2 R_sv) (c_law_value : CaP P w K mg base "_law_value" 2 R_lval) (c_law_span : CaC P w K mg base "_law_span" 4 R_span) (c_law_pieces_right : CaP P w K mg base "_law_pieces_right" 3 R_pr) (m_at : CaHP P w K mg base Cf "at" 2 (R_at Cf)) (m_pieces : CaHP P w K mg base Cf "pieces" 3 (R_pieces Cf))
    (Fu : Fun K "_law_asked" "_law_asked" s_law_asked f fd) : FnOk P w K mg base CX0 5 f fd ["pool", "facts", "rows", "default"] (spS K (R_asked Cf)) := by
  refine fn_S Fu sc_law_asked (fun ce es post h => ?_) fun X F ce es post hX hfn hH h => ?_
  · obtain ⟨_, _, _, _, rfl, _⟩ := h
    rfl
  · obtain ⟨cds, d, rs, rfl, rfl, hp, hl, k⟩ := h
    have bx := hX.bx
    have cF : ClF X.K Cf FSf := by rw [hX.eK]; exact T
    have r0 := hX.nmR (i := 0) (x := "pool") rfl (by first | exact Or.inl (by decide +kernel) | exact Or.inr (Or.inl (by decide +kernel))); have w0 := hX.nmW (i := 0) (x := "pool") rfl (by decide +kernel); have r1 := hX.nmR (i := 1) (x := "facts") rfl (by first | exact Or.inl (by decide +kernel) | exact Or.inr (Or.inl (by decide +kernel))); have w1 := hX.nmW (i := 1) (x := "facts") rfl (by decide +kernel); have r2 := hX.nmR (i := 2) (x := "rows") rfl (by first | exact Or.inl (by decide +kernel) | exact Or.inr (Or.inl (by decide +kernel))); have w2 := hX.nmW (i := 2) (x := "rows") rfl (by decide +kernel); have r3 := hX.nmR (i := 3) (x := "default") rfl (by first | exact Or.inl (by decide +kernel) | exact Or.inr (Or.inl (by decide +kernel))); have w3 := hX.nmW (i := 3) (x := "default") rfl (by decide +kernel); have r4 := hX.nmR (i := 4) (x := "period") rfl (by first | exact Or.inl (by decide +kernel) | exact Or.inr (Or.inl (by decide +kernel))); have w4 := hX.nmW (i := 4) (x := "period") rfl (by decide +kernel); have r5 := hX.nmR (i := 5) (x := "first") rfl (by first | exact Or.inl (by decide +kernel) | exact Or.inr (Or.inl (by decide +kernel))); have w5 := hX.nmW (i := 5) (x := "first") rfl (by decide +kernel); have r6 := hX.nmR (i := 6) (x := "last") rfl (by first | exact Or.inl (by decide +kernel) | exact Or.inr (Or.inl (by decide +kernel))); have w6 := hX.nmW (i := 6) (x := "last") rfl (by decide +kernel); have r7 := hX.nmR (i := 7) (x := "told") rfl (by first | exact Or.inl (by decide +kernel) | exact Or.inr (Or.inl (by decide +kernel))); have w7 := hX.nmW (i := 7) (x := "told") rfl (by decide +kernel); have d_law_periods := c_law_periods.at hX (by decide +kernel); have d_law_draw := c_law_draw.at hX (by decide +kernel); have d_law_same := c_law_same.at hX (by decide +kernel); have d_law_value := c_law_value.at hX (by decide +kernel); have d_law_span := c_law_span.at hX (by decide +kernel); have d_law_pieces_right := c_law_pieces_right.at hX (by decide +kernel)
    conv => (arg 3; whnf)
    have e6 : (10 : Int) ^ Int.toNat 6 = 1000000 := by decide
    refine jss_forE bx (ji_lst (je_bin (je_popT ?_))) (by intro _; rfl)
    walk_at "go"
    show R_per [rowsD rs, .int 1, optD none] _
    refine ap_per hl fun qs ql _ => ?_
    refine rtX_B (ints_imms _) (rtΦ_new ?_)
    refine ⟨⟨[some (.r 0), some (.r 1), some (.r 3), some (.d (vvD d)), none, none, none, none], [.nd .lst (cds.map .d), factC Cf d 2, rowsC rs, rowsC rs], 4⟩, .lst, qs.map D.int, rfl, rfl, Nat.le_refl _, tidy_a _ _ _ rfl, ?_⟩
    walk_at "go"
    refine ap_draw hp (lim_of (by decide) (by decide)) fun v cds1 v0 v1 hp1 => ?_
    refine rtΦ_dat ?_
    walk_at "go"
    refine jr_cat (ds1 := qs.map D.int) (ds2 := [1 + v, 1000000, 1].map D.int) rfl rfl (by rw [List.length_map, sizeLine_eq]; simp; omega) ?_
    rw [catI]
    generalize qs ++ [1 + v, 1000000, 1] = zs
    refine ⟨_, rfl, fun j s => ∃ o4 : Option D, s = ⟨[some (.r 0), some (.r 1), some (.r 3), some (.d (vvD d)), o4.map .d, none, none, none], [.nd .lst (cds1.map .d), factC Cf d 2, rowsC rs, rowsC rs], 4⟩, ⟨none, rfl⟩, ?_, ?_⟩
    · rintro j v s' hj ⟨dd, hd, rfl⟩ ⟨o4, rfl⟩
      rw [List.getElem?_map] at hd
      cases ex : zs[j]? with
      | none => rw [ex] at hd; cases hd
      | some q =>
        rw [ex] at hd
        cases hd
        walk_at "go"
        · refine je_methP (m_at.at hX) bx (by decide) ?_ rfl
          walk_at "st"
          refine ⟨FSf, _, rfl, by decide +kernel, ?_⟩
          walk_at "go"
          refine ⟨2, _, vw_fact (rs := rs) (b := 2) rfl rfl [.int q], ap_at ⟨vvD_imm _, rtΦ_dat ?_⟩⟩
          walk_at "go"
          refine ap_lval ?_
          refine rtX_B (vvD_imm _) (rtΦ_dat ?_)
          walk_at "go"
          refine ap_vt ?_
          walk_at "go"
          exact ⟨some (.int q), rfl⟩
        · exact ⟨some (.int q), rfl⟩
    · rintro s' ⟨o4, rfl⟩
      walk_at "go"
      refine ap_span hp1 fun f1 l1 cds2 hs hp2 => ?_
      refine rtΦ_dat ?_
      walk_at "go"
      refine je_methP (m_pieces.at hX) bx (by decide) ?_ rfl
      walk_at "st"
      refine ⟨FSf, _, rfl, by decide +kernel, ?_⟩
      walk_at "go"
      refine ⟨2, _, vw_fact (rs := rs) (b := 2) rfl rfl [.int f1, optD l1], ap_pieces hl hs.2.2 fun ps pl hP => ⟨ves_imm pcD_imm ps, rtΦ_new ?_⟩⟩
      walk_at "go"
      refine ap_pr hl pl hP ?_
      walk_at "go"
      refine je_append ?_
      walk_at "go"
      refine ⟨4, _, rfl, rfl, ?_⟩
      walk_at "go"
      refine ⟨by rw [List.length_map, List.length_map, sizeLine_eq]; omega, ?_⟩
      walk_at "go"
      refine .inl ⟨4, 0, _, 0, rfl, rfl, rfl, by unfold ixN; rw [if_pos (by decide), if_pos (by rw [List.length_append]; simp)]; rfl, ?_⟩
      refine jss_weak (s' := ⟨[some (.r 0), some (.r 1), some (.r 3), some (.d (vvD d)), o4.map .d, some (.d (.int f1)), some (.d (optD l1)), none], [.nd .lst (cds2.map .d), factC Cf d 2, rowsC rs, rowsC rs], 4⟩) ⟨fun i e h => ?_, rfl, ⟨[_], rfl⟩, rfl, by show 4 ≤ 4; decide⟩ (by cases o4 <;> rfl) ?_ ?_
      · match i, h with
        | 0, h => exact h
        | 1, h => exact h
        | 2, h => exact h
        | 3, h => exact h
        | 4, h => exact h
        | 5, h => exact h
        | 6, h => exact h
        | 7, h => cases h
        | i + 8, h => cases h
      · show ((cds2.map E.d).all (E.lt 4) && (true && (((rs.map rowD).map E.d).all (E.lt 4) && (((rs.map rowD).map E.d).all (E.lt 4) && true)))) = true
        rw [lt_ds, lt_ds]; rfl
      walk_at "st"
      walk_at "st"
      refine ja_cons (je_popT (je_methP (m_pieces.at hX) bx (by decide) ?_ rfl)) (by rfl)
      walk_at "st"
      refine ⟨FSf, _, rfl, by decide +kernel, ?_⟩
      walk_at "go"
      refine ⟨2, _, vw_fact (rs := rs) (b := 2) rfl rfl [.int f1, optD l1], ap_pieces hl hs.2.2 fun ps pl hP => ⟨ves_imm pcD_imm ps, rtΦ_new ?_⟩⟩
      refine ⟨⟨[some (.r 0), some (.r 1), some (.r 3), some (.d (vvD d)), o4.map .d, some (.d (.int f1)), some (.d (optD l1)), none], [.nd .lst (cds2.map .d), factC Cf d 2, rowsC rs, rowsC rs], 4⟩, .lst, ps.map pcD, rfl, rfl, Nat.le_refl _, tidy_a _ _ _ (by cases o4 <;> rfl), ?_⟩
      walk_at "go"
      refine ap_pr hl pl hP ?_
      walk_at "go"
      exact k cds2 hp2
end
theorem je_cut {X : Cx} {F : DL.Fr} {e : Expr} {s : S} {Φ : E → S → Prop} {e1 : E} (h : JE X F e s fun y t => y = e1 ∧ t = s) (k : Φ e1 s) : JE X F e s Φ := h.mono fun y t ⟨a, b⟩ => by subst a b; exact k
def valsV : List Vv := [.i 0, .i 1, .i 2, .n, .a, .t, .i 1000000]
abbrev LC (C : Addr) (cds : List D) (d0 d1 : Vv) (rs0 rs1 : List Row) : List Cell := [.nd .lst (cds.map .d), factC C d0 2, rowsC rs0, factC C d1 4, rowsC rs1, .nd .lst [.r 1, .r 3], rowsC rs0, rowsC rs1, .nd .lst [.r 6, .r 7]]
theorem goes4 {s : S} {C : Addr} {d : Vv} {rs : List Row} {cds : List D} {p a b c : Nat} (hn : [p, a, b, c].Nodup) (h0 : nth s.ce p = some (.nd .lst (cds.map .d))) (h1 : nth s.ce a = some (factC C d b)) (h2 : nth s.ce b = some (rowsC rs)) (h3 : nth s.ce c = some (rowsC rs)) : Goes s [p, a, b, c] [.nd .lst (cds.map .d), factC C d 2, rowsC rs, rowsC rs] := by
  refine ⟨hn, fun j hj => ?_, rfl, fun i j cl q1 q2 => ?_, ?_⟩
  · simp only [List.mem_cons, List.not_mem_nil, or_false] at hj
    rcases hj with rfl | rfl | rfl | rfl
    · exact lt_nth h0
    · exact lt_nth h1
    · exact lt_nth h2
    · exact lt_nth h3
  · rw [← nth_eq]
    match i, q1, q2 with
    | 0, q1, q2 => cases q1; cases q2; rw [ren_l]; exact h0
    | 1, q1, q2 => cases q1; cases q2; exact h1
    | 2, q1, q2 => cases q1; cases q2; rw [ren_l]; exact h2
    | 3, q1, q2 => cases q1; cases q2; rw [ren_l]; exact h3
    | i + 4, q1, q2 => cases q1
  · show ((cds.map E.d).all (E.lt 4) && (true && (((rs.map rowD).map E.d).all (E.lt 4) && (((rs.map rowD).map E.d).all (E.lt 4) && true)))) = true
    rw [lt_ds, lt_ds]; rfl
theorem goes2 {s : S} {C : Addr} {d : Vv} {rs : List Row} {a b : Nat} (hn : [a, b].Nodup) (h1 : nth s.ce a = some (factC C d b)) (h2 : nth s.ce b = some (rowsC rs)) : Goes s [a, b] [factC C d 1, rowsC rs] := by
  refine ⟨hn, fun j hj => ?_, rfl, fun i j cl q1 q2 => ?_, ?_⟩
  · simp only [List.mem_cons, List.not_mem_nil, or_false] at hj
    rcases hj with rfl | rfl
    · exact lt_nth h1
    · exact lt_nth h2
  · rw [← nth_eq]
    match i, q1, q2 with
    | 0, q1, q2 => cases q1; cases q2; exact h1
    | 1, q1, q2 => cases q1; cases q2; rw [ren_l]; exact h2
    | i + 2, q1, q2 => cases q1
  · show (true && (((rs.map rowD).map E.d).all (E.lt 2) && true)) = true
    rw [lt_ds]; rfl
section
variable {C : Addr} {cds : List D} {d0 d1 : Vv} {rs0 rs1 : List Row} {sl : List (Option E)} {Φ : E → S → Prop}
theorem ask0 (hp : PoolD cds) (hl : rs0.length ≤ 30) (h : ∀ cds', PoolD cds' → Φ (.d (.bl true)) ⟨sl, LC C cds' d0 d1 rs0 rs1, 0⟩) : CalQ (R_asked C) ⟨sl, LC C cds d0 d1 rs0 rs1, 0⟩ [.r 0, .r 1, .r 6, .d (vvD d0)] Φ := by
  refine ⟨[0, 1, 2, 6], _, [.r 0, .r 1, .r 3, .d (vvD d0)], goes4 (cds := cds) (d := d0) (rs := rs0) (C := C) (by decide) rfl rfl rfl rfl, rfl, rfl, cds, d0, rs0, rfl, rfl, hp, hl, fun cds' hp' => ?_⟩
  have hb : S.back ⟨sl, LC C cds d0 d1 rs0 rs1, 0⟩ [0, 1, 2, 6] [.nd .lst (cds'.map .d), factC C d0 2, rowsC rs0, rowsC rs0] = ⟨sl, LC C cds' d0 d1 rs0 rs1, 0⟩ := by
    show (⟨_, setMany _ _ [Cell.ren _ (.nd .lst (cds'.map .d)), Cell.ren _ (factC C d0 2), Cell.ren _ (rowsC rs0), Cell.ren _ (rowsC rs0)] ++ [], _⟩ : S) = _
    rw [ren_l, ren_l]; rfl
  show Φ _ (S.back _ _ _)
  rw [hb]
  exact h cds' hp'
theorem ask1 (hp : PoolD cds) (hl : rs1.length ≤ 30) (h : ∀ cds', PoolD cds' → Φ (.d (.bl true)) ⟨sl, LC C cds' d0 d1 rs0 rs1, 0⟩) : CalQ (R_asked C) ⟨sl, LC C cds d0 d1 rs0 rs1, 0⟩ [.r 0, .r 3, .r 7, .d (vvD d1)] Φ := by
  refine ⟨[0, 3, 4, 7], _, [.r 0, .r 1, .r 3, .d (vvD d1)], goes4 (cds := cds) (d := d1) (rs := rs1) (C := C) (by decide) rfl rfl rfl rfl, rfl, rfl, cds, d1, rs1, rfl, rfl, hp, hl, fun cds' hp' => ?_⟩
  have hb : S.back ⟨sl, LC C cds d0 d1 rs0 rs1, 0⟩ [0, 3, 4, 7] [.nd .lst (cds'.map .d), factC C d1 2, rowsC rs1, rowsC rs1] = ⟨sl, LC C cds' d0 d1 rs0 rs1, 0⟩ := by
    show (⟨_, setMany _ _ [Cell.ren _ (.nd .lst (cds'.map .d)), Cell.ren _ (factC C d1 2), Cell.ren _ (rowsC rs1), Cell.ren _ (rowsC rs1)] ++ [], _⟩ : S) = _
    rw [ren_l, ren_l]; rfl
  show Φ _ (S.back _ _ _)
  rw [hb]
  exact h cds' hp'
theorem tel0 {f : Int} {l : Option Int} {v : Vv} {rest : List Cell} {c0 : Cell} (hl : rs0.length ≤ 30) (h : Φ (.d .non) ⟨sl, c0 :: factC C d0 2 :: rowsC (rs0 ++ [⟨f, l, v⟩]) :: rest, 0⟩) : CalQ (R_tell C) ⟨sl, c0 :: factC C d0 2 :: rowsC rs0 :: rest, 0⟩ [.r 1, .d (.int f), .d (optD l), .d (vvD v)] Φ := by
  refine ⟨[1, 2], _, [.r 0, .d (.int f), .d (optD l), .d (vvD v)], goes2 (d := d0) (rs := rs0) (C := C) (by decide) rfl rfl, rfl, rfl, d0, rs0, f, l, v, rfl, rfl, hl, ?_⟩
  have hb : S.back ⟨sl, c0 :: factC C d0 2 :: rowsC rs0 :: rest, 0⟩ [1, 2] [factC C d0 1, rowsC (rs0 ++ [⟨f, l, v⟩])] = ⟨sl, c0 :: factC C d0 2 :: rowsC (rs0 ++ [⟨f, l, v⟩]) :: rest, 0⟩ := by
    show (⟨_, setMany _ _ [Cell.ren _ (factC C d0 1), Cell.ren _ (rowsC (rs0 ++ [⟨f, l, v⟩]))] ++ [], _⟩ : S) = _
    rw [ren_l, List.append_nil]; rfl
  show Φ _ (S.back _ _ _)
  rw [hb]
  exact h
theorem tel1 {f : Int} {l : Option Int} {v : Vv} {rest : List Cell} {c0 c1 c2 : Cell} (hl : rs1.length ≤ 30) (h : Φ (.d .non) ⟨sl, c0 :: c1 :: c2 :: factC C d1 4 :: rowsC (rs1 ++ [⟨f, l, v⟩]) :: rest, 0⟩) : CalQ (R_tell C) ⟨sl, c0 :: c1 :: c2 :: factC C d1 4 :: rowsC rs1 :: rest, 0⟩ [.r 3, .d (.int f), .d (optD l), .d (vvD v)] Φ := by
  refine ⟨[3, 4], _, [.r 0, .d (.int f), .d (optD l), .d (vvD v)], goes2 (d := d1) (rs := rs1) (C := C) (by decide) rfl rfl, rfl, rfl, d1, rs1, f, l, v, rfl, rfl, hl, ?_⟩
  have hb : S.back ⟨sl, c0 :: c1 :: c2 :: factC C d1 4 :: rowsC rs1 :: rest, 0⟩ [3, 4] [factC C d1 1, rowsC (rs1 ++ [⟨f, l, v⟩])] = ⟨sl, c0 :: c1 :: c2 :: factC C d1 4 :: rowsC (rs1 ++ [⟨f, l, v⟩]) :: rest, 0⟩ := by
    show (⟨_, setMany _ _ [Cell.ren _ (factC C d1 1), Cell.ren _ (rowsC (rs1 ++ [⟨f, l, v⟩]))] ++ [], _⟩ : S) = _
    rw [ren_l, List.append_nil]; rfl
  show Φ _ (S.back _ _ _)
  rw [hb]
  exact h
end
def R_law : RP := fun ds post => ∃ ns : List Int, ds = [lsI ns] ∧ ns.length ≤ 63 ∧ post (.dat (.bl true))
section
variable {P : Program} {w : World} {K : PySem.W.Frag} {mg : Str → Option Value} {base : Heap} {Cf : Addr}
theorem mk_q {X : Cx} {C : Addr} {d : Vv} {sl : List (Option E)} {cs : List Cell} {Φ : E → S → Prop} (h : Φ (.r cs.length) ⟨sl, cs ++ [factC C d (cs.length + 1), .nd .lst []], 0⟩) : MkQ X C (R_init C) ⟨sl, cs, 0⟩ [.d (vvD d)] Φ := by
  refine ⟨[cs.length], [.nd (.ins C []) []], [.r 0, .d (vvD d)], ⟨by simp, fun j hj => ?_, rfl, fun i j cl q1 q2 => ?_, rfl⟩, ?_, rfl, d, rfl, rfl, rfl, ?_⟩
  · obtain rfl : j = cs.length := by simpa using hj
    show _ < (cs ++ [Cell.nd (.ins C []) []]).length
    simp
  · match i, q1, q2 with
    | 0, q1, q2 =>
      cases q1; cases q2
      show (cs ++ [Cell.nd (.ins C []) []])[cs.length]? = _
      rw [List.getElem?_append_right (Nat.le_refl _), Nat.sub_self]; rfl
    | i + 1, q1, q2 => cases q1
  · rfl
  · have hb : S.back (S.push ⟨sl, cs, 0⟩ (.ins C []) []) [cs.length] [factC C d 1, .nd .lst []] = ⟨sl, cs ++ [factC C d (cs.length + 1), .nd .lst []], 0⟩ := by
      show (⟨sl, setN (cs ++ [Cell.nd (.ins C []) []]) cs.length _ ++ [Cell.nd .lst []], 0⟩ : S) = _
      rw [setN_eq, List.set_append_right _ _ (Nat.le_refl _), Nat.sub_self, List.append_assoc]
      show (⟨sl, cs ++ ([Cell.ren _ (factC C d 1)] ++ [Cell.nd .lst []]), 0⟩ : S) = _
      show (⟨sl, cs ++ [factC C d (jsF [cs.length] (cs ++ [Cell.nd (.ins C []) []]).length 1), Cell.nd .lst []], 0⟩ : S) = _
      have : jsF [cs.length] (cs ++ [Cell.nd (.ins C []) []]).length 1 = cs.length + 1 := by
        show (cs ++ [Cell.nd (.ins C []) []]).length + (1 - 1) = _
        simp
      rw [this]
    show Φ _ (S.back _ _ _)
    rw [hb]
    exact h
end
section
variable {P : Program} {w : World} {K : PySem.W.Frag} {mg : Str → Option Value} {base : Heap} {Cf : Addr}
theorem ok_law {f : Addr} {fd : FuncData} (C : Bs2 mg) (c_law_pool : CaP P w K mg base "_law_pool" 3 R_pool) (c_law_next : CaC P w K mg base "_law_next" 3 R_next) (c_law_draw : CaC P w K mg base "_law_draw" 3 R_draw) (c_law_pick : CaC P w K mg base "_law_pick" 4 R_pick) (c_law_span : CaC P w K mg base "_law_span" 4 R_span) (c_law_asked : CaS P w K mg base "_law_asked" 5 (R_asked Cf)) (m_Facts : CaM P w K mg base "Facts" 1 Cf (R_init Cf)) (m_tell : CaHS P w K mg base Cf "tell" 1 (R_tell Cf))
    (Fu : Fun K "law" "law" s_law f fd) : FnOk P w K mg base CX0 6 f fd ["script"] (spP K R_law) := by
  refine fn_P Fu sc_law (fun ds post h => ?_) fun X F ds post hX hfn hH h => ?_
  · obtain ⟨_, rfl, _⟩ := h
    rfl
  · obtain ⟨ns, rfl, hns, k⟩ := h
    have bx := hX.bx
    have r0 := hX.nmR (i := 0) (x := "script") rfl (by first | exact Or.inl (by decide +kernel) | exact Or.inr (Or.inl (by decide +kernel))); have w0 := hX.nmW (i := 0) (x := "script") rfl (by decide +kernel); have r1 := hX.nmR (i := 1) (x := "pool") rfl (by first | exact Or.inl (by decide +kernel) | exact Or.inr (Or.inl (by decide +kernel))); have w1 := hX.nmW (i := 1) (x := "pool") rfl (by decide +kernel); have r2 := hX.nmR (i := 2) (x := "values") rfl (by first | exact Or.inl (by decide +kernel) | exact Or.inr (Or.inl (by decide +kernel))); have w2 := hX.nmW (i := 2) (x := "values") rfl (by decide +kernel); have r3 := hX.nmR (i := 3) (x := "defaults") rfl (by first | exact Or.inl (by decide +kernel) | exact Or.inr (Or.inl (by decide +kernel))); have w3 := hX.nmW (i := 3) (x := "defaults") rfl (by decide +kernel); have r4 := hX.nmR (i := 4) (x := "both") rfl (by first | exact Or.inl (by decide +kernel) | exact Or.inr (Or.inl (by decide +kernel))); have w4 := hX.nmW (i := 4) (x := "both") rfl (by decide +kernel); have r5 := hX.nmR (i := 5) (x := "rows") rfl (by first | exact Or.inl (by decide +kernel) | exact Or.inr (Or.inl (by decide +kernel))); have w5 := hX.nmW (i := 5) (x := "rows") rfl (by decide +kernel); have r6 := hX.nmR (i := 6) (x := "deed") rfl (by first | exact Or.inl (by decide +kernel) | exact Or.inr (Or.inl (by decide +kernel))); have w6 := hX.nmW (i := 6) (x := "deed") rfl (by decide +kernel); have r7 := hX.nmR (i := 7) (x := "at") rfl (by first | exact Or.inl (by decide +kernel) | exact Or.inr (Or.inl (by decide +kernel))); have w7 := hX.nmW (i := 7) (x := "at") rfl (by decide +kernel); have r8 := hX.nmR (i := 8) (x := "first") rfl (by first | exact Or.inl (by decide +kernel) | exact Or.inr (Or.inl (by decide +kernel))); have w8 := hX.nmW (i := 8) (x := "first") rfl (by decide +kernel); have r9 := hX.nmR (i := 9) (x := "last") rfl (by first | exact Or.inl (by decide +kernel) | exact Or.inr (Or.inl (by decide +kernel))); have w9 := hX.nmW (i := 9) (x := "last") rfl (by decide +kernel); have r10 := hX.nmR (i := 10) (x := "value") rfl (by first | exact Or.inl (by decide +kernel) | exact Or.inr (Or.inl (by decide +kernel))); have w10 := hX.nmW (i := 10) (x := "value") rfl (by decide +kernel); have d_law_pool := c_law_pool.at hX (by decide +kernel); have d_law_pick := c_law_pick.at hX (by decide +kernel); have g_range := hX.glb (x := "range") (by decide +kernel) C.b_range; have d_law_draw := c_law_draw.at hX (by decide +kernel); have d_law_next := c_law_next.at hX (by decide +kernel); have d_law_asked := c_law_asked.at hX (by decide +kernel); have d_law_span := c_law_span.at hX (by decide +kernel)
    have d_Facts := m_Facts.at hX (by decide +kernel)
    conv => (arg 3; whnf)
    have e6 : (10 : Int) ^ Int.toNat 6 = 1000000 := by decide
    walk_at "go"
    refine ap_pool fun cds hp => ?_
    walk_at "st"
    walk_at "st"
    walk_at "st"
    with_reducible refine' je_cut (e1 := .d (.nd .lst (valsV.map vvD))) ?_ ?_
    · walk_at "go"
      rw [e6]
      exact ⟨rfl, rfl⟩
    walk_at "go"
    refine ap_pick hp (.inl rfl) (by decide) (by decide) fun dd cds1 hd hp1 => ?_
    walk_at "st"
    obtain ⟨d0, _, rfl⟩ := List.mem_map.mp hd
    iterate 7 walk_at "st"
    with_reducible refine' je_own (jn_lst (ja_cons (je_make d_Facts bx ?zb ?_ ?zd ?ze ?zp) ?zs))
    (case zb => decide); (case zd => decide); (case ze => rfl); (case zp => rfl); (case zs => rfl)
    walk_at "go"
    show MkQ X Cf (R_init Cf) ⟨[some (.d (lsI ns)), some (.r 0), some (.d (.nd .lst (valsV.map vvD))), some (.d (.nd .lst [vvD d0, vvD .y])), none, none, none, none, none, none, none], [.nd .lst (cds1.map .d)], 0⟩ [.d (vvD d0)] _
    with_reducible refine' mk_q ?_
    with_reducible refine' ja_cons (je_make d_Facts bx ?zb ?_ ?zd ?ze ?zp) ?zs
    (case zb => decide); (case zd => decide); (case ze => rfl); (case zp => rfl); (case zs => rfl)
    walk_at "go"
    show MkQ X Cf (R_init Cf) ⟨[some (.d (lsI ns)), some (.r 0), some (.d (.nd .lst (valsV.map vvD))), some (.d (.nd .lst [vvD d0, vvD .y])), none, none, none, none, none, none, none], [.nd .lst (cds1.map .d), factC Cf d0 2, .nd .lst []], 0⟩ [.d (vvD .y)] _
    with_reducible refine' mk_q ?_
    iterate 3 walk_at "st"
    with_reducible refine' And.intro rfl ?_
    show JSs X F _ ⟨[some (.d (lsI ns)), some (.r 0), some (.d (.nd .lst (valsV.map vvD))), some (.d (.nd .lst [vvD d0, vvD .y])), some (.r 5), none, none, none, none, none, none], [.nd .lst (cds1.map .d), factC Cf d0 2, .nd .lst [], factC Cf .y 4, .nd .lst [], .nd .lst [.r 1, .r 3]], 0⟩ _
    walk_at "st"
    with_reducible refine' je_own (jn_lst (ja_cons (je_own (jn_lst ?_)) ?zs))
    (case zs => rfl)
    walk_at "st"
    with_reducible refine' And.intro (Nat.zero_le _) (And.intro rfl ?_)
    with_reducible refine' ja_cons (je_own (jn_lst ?_)) ?zs
    (case zs => rfl)
    walk_at "st"
    with_reducible refine' And.intro (Nat.zero_le _) (And.intro rfl ?_)
    iterate 3 walk_at "st"
    with_reducible refine' And.intro rfl ?_
    show JSs X F _ ⟨[some (.d (lsI ns)), some (.r 0), some (.d (.nd .lst (valsV.map vvD))), some (.d (.nd .lst [vvD d0, vvD .y])), some (.r 5), some (.r 8), none, none, none, none, none], LC Cf cds1 d0 .y [] [], 0⟩ _
    with_reducible refine' jss_for bx (fun i s => ∃ (cds : List D) (rs0 rs1 : List Row) (o6 o7 o8 o9 o10 : Option D), PoolD cds ∧ rs0.length ≤ i ∧ rs1.length ≤ i ∧ s = ⟨[some (.d (lsI ns)), some (.r 0), some (.d (.nd .lst (valsV.map vvD))), some (.d (.nd .lst [vvD d0, vvD .y])), some (.r 5), some (.r 8), o6.map .d, o7.map .d, o8.map .d, o9.map .d, o10.map .d], LC Cf cds d0 .y rs0 rs1, 0⟩) (ji_range1 g_range ?_ ?zn) ?zs
    (case zn => intro _ _; rfl); (case zs => intro _; rfl)
    walk_at "go"
    refine ap_draw hp1 (lim_of (by decide) (by decide)) fun nd cds2 n0 n1 hp2 => ?_
    walk_at "st"
    walk_at "go"
    refine ⟨by omega, ⟨cds2, [], [], none, none, none, none, none, hp2, Nat.le_refl _, Nat.le_refl _, rfl⟩, ?_, ?_⟩
    · rintro i v s' hi he ⟨cds, rs0, rs1, o6, o7, o8, o9, o10, hp, hl0, hl1, rfl⟩
      obtain rfl : v = _ := he
      have L0 : rs0.length ≤ 30 := by omega
      have L1 : rs1.length ≤ 30 := by omega
      walk_at "go"
      refine ap_next hp fun cds3 hp3 => ?_
      walk_at "st"
      walk_at "go"
      refine ap_draw hp3 (lim_of (by decide) (by decide)) fun b cds4 b0 b1 hp4 => ?_
      walk_at "st"
      obtain rfl | rfl : b = 0 ∨ b = 1 := by omega
      · walk_at "go"
        refine ap_draw hp4 (lim_of (by decide) (by decide)) fun u cds5 u0 u1 hp5 => ?_
        walk_at "st"
        walk_at "go"
        · with_reducible refine' je_callQ d_law_asked bx ?zk ?_ ?z1 ?z2 ?z3
          (case zk => decide); (case z1 => decide); (case z2 => rfl); (case z3 => rfl)
          walk_at "go"
          refine ask0 hp5 L0 fun cds6 hp6 => ?_
          walk_at "go"
          exact ⟨cds6, rs0, rs1, some (.int (0 + i)), some (.int 0), o8, o9, o10, hp6, by omega, by omega, rfl⟩
        · refine ap_span hp5 fun f1 l1 cds6 hs hp6 => ?_
          walk_at "st"
          walk_at "go"
          refine ap_pick hp6 (.inl rfl) (by decide) (by decide) fun dd cds7 hd hp7 => ?_
          walk_at "st"
          obtain ⟨v, _, rfl⟩ := List.mem_map.mp hd
          walk_at "go"
          refine je_methQ (m_tell.at hX) bx (by decide) ?_ rfl
          walk_at "go"
          refine ⟨FSf, _, rfl, by decide +kernel, ?_⟩
          walk_at "go"
          refine tel0 (C := Cf) (d0 := d0) (rs0 := rs0) (f := f1) (l := l1) (v := v) L0 ?_
          walk_at "go"
          refine je_append ?_
          walk_at "go"
          refine ⟨6, _, rfl, rfl, ?_⟩
          walk_at "go"
          refine ⟨by rw [List.length_map, List.length_map, sizeLine_eq]; omega, ?_⟩
          walk_at "go"
          have ec : rowsC (rs0 ++ [⟨f1, l1, v⟩]) = .nd .lst ((rs0.map rowD).map .d ++ [.d (rowD ⟨f1, l1, v⟩)]) := by
            show Cell.nd .lst (((rs0 ++ [_]).map rowD).map E.d) = _
            rw [List.map_append, List.map_append]; rfl
          refine ⟨cds7, rs0 ++ [⟨f1, l1, v⟩], rs1, some (.int (0 + i)), some (.int 0), some (.int f1), some (optD l1), some (vvD v), hp7, by rw [List.length_append]; simp; omega, by omega, ?_⟩
          show (⟨_, [_, _, rowsC (rs0 ++ [⟨f1, l1, v⟩]), _, _, _, .nd .lst ((rs0.map rowD).map .d ++ [.d (rowD ⟨f1, l1, v⟩)]), _, _], _⟩ : S) = _
          rw [← ec]
          rfl
      · walk_at "go"
        refine ap_draw hp4 (lim_of (by decide) (by decide)) fun u cds5 u0 u1 hp5 => ?_
        walk_at "st"
        walk_at "go"
        · with_reducible refine' je_callQ d_law_asked bx ?zk ?_ ?z1 ?z2 ?z3
          (case zk => decide); (case z1 => decide); (case z2 => rfl); (case z3 => rfl)
          walk_at "go"
          refine ask1 (C := Cf) (d0 := d0) (d1 := .y) (rs0 := rs0) (rs1 := rs1) hp5 L1 fun cds6 hp6 => ?_
          walk_at "go"
          exact ⟨cds6, rs0, rs1, some (.int (0 + i)), some (.int 1), o8, o9, o10, hp6, by omega, by omega, rfl⟩
        · refine ap_span hp5 fun f1 l1 cds6 hs hp6 => ?_
          walk_at "st"
          walk_at "go"
          refine ap_pick hp6 (.inl rfl) (by decide) (by decide) fun dd cds7 hd hp7 => ?_
          walk_at "st"
          obtain ⟨v, _, rfl⟩ := List.mem_map.mp hd
          walk_at "go"
          refine je_methQ (m_tell.at hX) bx (by decide) ?_ rfl
          walk_at "go"
          refine ⟨FSf, _, rfl, by decide +kernel, ?_⟩
          walk_at "go"
          refine tel1 (C := Cf) (d1 := .y) (rs1 := rs1) (f := f1) (l := l1) (v := v) L1 ?_
          walk_at "go"
          refine je_append ?_
          walk_at "go"
          refine ⟨7, _, rfl, rfl, ?_⟩
          walk_at "go"
          refine ⟨by rw [List.length_map, List.length_map, sizeLine_eq]; omega, ?_⟩
          walk_at "go"
          have ec : rowsC (rs1 ++ [⟨f1, l1, v⟩]) = .nd .lst ((rs1.map rowD).map .d ++ [.d (rowD ⟨f1, l1, v⟩)]) := by
            show Cell.nd .lst (((rs1 ++ [_]).map rowD).map E.d) = _
            rw [List.map_append, List.map_append]; rfl
          refine ⟨cds7, rs0, rs1 ++ [⟨f1, l1, v⟩], some (.int (0 + i)), some (.int 1), some (.int f1), some (optD l1), some (vvD v), hp7, by omega, by rw [List.length_append]; simp; omega, ?_⟩
          show (⟨_, [_, _, _, _, rowsC (rs1 ++ [⟨f1, l1, v⟩]), _, _, .nd .lst ((rs1.map rowD).map .d ++ [.d (rowD ⟨f1, l1, v⟩)]), _], _⟩ : S) = _
          rw [← ec]
          rfl
    · rintro s' ⟨cds, rs0, rs1, o6, o7, o8, o9, o10, hp, hl0, hl1, rfl⟩
      have L0 : rs0.length ≤ 30 := by omega
      have L1 : rs1.length ≤ 30 := by omega
      walk_at "go"
      refine ap_next hp fun cds3 hp3 => ?_
      walk_at "st"
      walk_at "go"
      with_reducible refine' je_callQ d_law_asked bx ?zk ?_ ?z1 ?z2 ?z3
      (case zk => decide); (case z1 => decide); (case z2 => rfl); (case z3 => rfl)
      walk_at "go"
      refine ask0 hp3 L0 fun cds4 hp4 => ?_
      walk_at "go"
      with_reducible refine' je_callQ d_law_asked bx ?zk ?_ ?z1 ?z2 ?z3
      (case zk => decide); (case z1 => decide); (case z2 => rfl); (case z3 => rfl)
      walk_at "go"
      refine ask1 (C := Cf) (d0 := d0) (d1 := .y) (rs0 := rs0) (rs1 := rs1) hp4 L1 fun cds5 hp5 => ?_
      exact k
end
theorem fn_vac {P : Program} {w : World} {K : PySem.W.Frag} {mg : Str → Option Value} {base : Heap} {k : Nat} {f : Addr} {fd : FuncData} {ps : List Str} {R : RP} (h : ∀ ds post, R ds post → False) : FnOk P w K mg base CX0 k f fd ps (spP K R) :=
  ⟨fun vs H Q E ⟨_, _, _, _, z⟩ => (h _ _ z).elim, fun A outer s H args us vs Q E _ _ _ _ ⟨_, _, _, _, z⟩ => (h _ _ z).elim⟩
theorem law_sp {K : PySem.W.Frag} {H : Hp} {a : Addr} {ns : List Int} (hS : SqL K H a (ns.map V.int)) (hl : ns.length ≤ 63) : spP K R_law [.ref a] H (fun v _ => v = .bl true) fun _ _ _ => False :=
  ⟨H, [lsI ns], Same.refl _, .cons (.nd (k := .lst) hS (reps_ints ns)) .nil, ns, rfl, hl, fun v G' H' _ _ _ _ r => by cases r; rfl⟩
theorem all_mk {l : PySem.W.OpenLaw} {w : World} {K : PySem.W.Frag} {h : Heap} {mg : Str → Option Value} {fa f1 f2 f3 f4 f5 f6 f7 f8 f9 f10 f11 f12 f13 f14 f15 f16 f17 f18 f19 f20 f21 f22 f23 : Addr} (X : K.In h) (G : h.Ns mainGlobals mg) (hfa : mg "law" = some (.ref fa))
    {C_Facts : Addr}
    {od1 an1 : Option Addr} {sl1 : Array (Option Value)} {oc1 kV1 dc1 pm1 cd1 ct1 : Value}
    {od2 an2 : Option Addr} {sl2 : Array (Option Value)} {oc2 kV2 dc2 pm2 cd2 ct2 : Value}
    {od3 an3 : Option Addr} {sl3 : Array (Option Value)} {oc3 kV3 dc3 pm3 cd3 ct3 : Value}
    {od4 an4 : Option Addr} {sl4 : Array (Option Value)} {oc4 kV4 dc4 pm4 cd4 ct4 : Value}
    {od5 an5 : Option Addr} {sl5 : Array (Option Value)} {oc5 kV5 dc5 pm5 cd5 ct5 : Value}
    {od6 an6 : Option Addr} {sl6 : Array (Option Value)} {oc6 kV6 dc6 pm6 cd6 ct6 : Value}
    {od7 an7 : Option Addr} {sl7 : Array (Option Value)} {oc7 kV7 dc7 pm7 cd7 ct7 : Value}
    {od8 an8 : Option Addr} {sl8 : Array (Option Value)} {oc8 kV8 dc8 pm8 cd8 ct8 : Value}
    {od9 an9 : Option Addr} {sl9 : Array (Option Value)} {oc9 kV9 dc9 pm9 cd9 ct9 : Value}
    {od10 an10 : Option Addr} {sl10 : Array (Option Value)} {oc10 kV10 dc10 pm10 cd10 ct10 : Value}
    {od11 an11 : Option Addr} {sl11 : Array (Option Value)} {oc11 kV11 dc11 pm11 cd11 ct11 : Value}
    {od12 an12 : Option Addr} {sl12 : Array (Option Value)} {oc12 kV12 dc12 pm12 cd12 ct12 : Value}
    {od13 an13 : Option Addr} {sl13 : Array (Option Value)} {oc13 kV13 dc13 pm13 cd13 ct13 : Value}
    {od14 an14 : Option Addr} {sl14 : Array (Option Value)} {oc14 kV14 dc14 pm14 cd14 ct14 : Value}
    {od15 an15 : Option Addr} {sl15 : Array (Option Value)} {oc15 kV15 dc15 pm15 cd15 ct15 : Value}
    {od16 an16 : Option Addr} {sl16 : Array (Option Value)} {oc16 kV16 dc16 pm16 cd16 ct16 : Value}
    {od17 an17 : Option Addr} {sl17 : Array (Option Value)} {oc17 kV17 dc17 pm17 cd17 ct17 : Value}
    {od18 an18 : Option Addr} {sl18 : Array (Option Value)} {oc18 kV18 dc18 pm18 cd18 ct18 : Value}
    {od19 an19 : Option Addr} {sl19 : Array (Option Value)} {oc19 kV19 dc19 pm19 cd19 ct19 : Value}
    {od20 an20 : Option Addr} {sl20 : Array (Option Value)} {oc20 kV20 dc20 pm20 cd20 ct20 : Value}
    {od21 an21 : Option Addr} {sl21 : Array (Option Value)} {oc21 kV21 dc21 pm21 cd21 ct21 : Value}
    {od22 an22 : Option Addr} {sl22 : Array (Option Value)} {oc22 kV22 dc22 pm22 cd22 ct22 : Value}
    {od23 an23 : Option Addr} {sl23 : Array (Option Value)} {oc23 kV23 dc23 pm23 cd23 ct23 : Value}
    (aC_Facts : PySem.W.nsIn K mainGlobals "Facts" = some (some (.ref C_Facts))) (pg_Facts : PySem.W.plainGet K C_Facts Str.empty = true) (hd_Facts : PySem.W.hasDictIn K C_Facts = true) (po_Facts : PySem.W.plainOver K C_Facts = true) (sa_Facts : PySem.W.findIn K (.ref C_Facts) "__setattr__" = some (some (.builtin "object.__setattr__"))) (mk_Facts : PySem.W.makesIn K C_Facts = true) (kc_Facts : PySem.W.keepIn K (.ref C_Facts) = true)
    (n_Facts_default : PySem.W.findIn K (.ref C_Facts) "default" = some none)
    (n_Facts_rows : PySem.W.findIn K (.ref C_Facts) "rows" = some none)
    (a1 : PySem.W.nsIn K mainGlobals "holds" = some (some (.ref f1))) (l1 : K.lookup f1 = some ⟨oc1, od1, .func (PySem.W.fnOf "holds" "holds" (defArgs s_holds) (defBody s_holds) (defScope s_holds) .none kV1 dc1 pm1 an1 cd1 ct1), sl1⟩) (c1 : PySem.W.codeIn K cd1 "holds" = true) (k1 : PySem.W.keepIn K (.ref f1) = true)
    (a2 : PySem.W.nsIn K mainGlobals "starts" = some (some (.ref f2))) (l2 : K.lookup f2 = some ⟨oc2, od2, .func (PySem.W.fnOf "starts" "starts" (defArgs s_starts) (defBody s_starts) (defScope s_starts) .none kV2 dc2 pm2 an2 cd2 ct2), sl2⟩) (c2 : PySem.W.codeIn K cd2 "starts" = true) (k2 : PySem.W.keepIn K (.ref f2) = true)
    (a3 : PySem.W.nsIn K mainGlobals "ends" = some (some (.ref f3))) (l3 : K.lookup f3 = some ⟨oc3, od3, .func (PySem.W.fnOf "ends" "ends" (defArgs s_ends) (defBody s_ends) (defScope s_ends) .none kV3 dc3 pm3 an3 cd3 ct3), sl3⟩) (c3 : PySem.W.codeIn K cd3 "ends" = true) (k3 : PySem.W.keepIn K (.ref f3) = true)
    (a4 : PySem.W.findIn K (.ref C_Facts) "__init__" = some (some (.ref f4))) (i4 : PySem.W.isFn K (.ref f4) = true) (l4 : K.lookup f4 = some ⟨oc4, od4, .func (PySem.W.fnOf "__init__" "Facts.__init__" (defArgs s_Facts___init__) (defBody s_Facts___init__) (defScope s_Facts___init__) .none kV4 dc4 pm4 an4 cd4 ct4), sl4⟩) (c4 : PySem.W.codeIn K cd4 "Facts.__init__" = true) (k4 : PySem.W.keepIn K (.ref f4) = true)
    (a5 : PySem.W.findIn K (.ref C_Facts) "tell" = some (some (.ref f5))) (i5 : PySem.W.isFn K (.ref f5) = true) (l5 : K.lookup f5 = some ⟨oc5, od5, .func (PySem.W.fnOf "tell" "Facts.tell" (defArgs s_Facts_tell) (defBody s_Facts_tell) (defScope s_Facts_tell) .none kV5 dc5 pm5 an5 cd5 ct5), sl5⟩) (c5 : PySem.W.codeIn K cd5 "Facts.tell" = true) (k5 : PySem.W.keepIn K (.ref f5) = true)
    (a6 : PySem.W.findIn K (.ref C_Facts) "at" = some (some (.ref f6))) (i6 : PySem.W.isFn K (.ref f6) = true) (l6 : K.lookup f6 = some ⟨oc6, od6, .func (PySem.W.fnOf "at" "Facts.at" (defArgs s_Facts_at) (defBody s_Facts_at) (defScope s_Facts_at) .none kV6 dc6 pm6 an6 cd6 ct6), sl6⟩) (c6 : PySem.W.codeIn K cd6 "Facts.at" = true) (k6 : PySem.W.keepIn K (.ref f6) = true)
    (a7 : PySem.W.findIn K (.ref C_Facts) "spans" = some (some (.ref f7))) (i7 : PySem.W.isFn K (.ref f7) = true) (l7 : K.lookup f7 = some ⟨oc7, od7, .func (PySem.W.fnOf "spans" "Facts.spans" (defArgs s_Facts_spans) (defBody s_Facts_spans) (defScope s_Facts_spans) .none kV7 dc7 pm7 an7 cd7 ct7), sl7⟩) (c7 : PySem.W.codeIn K cd7 "Facts.spans" = true) (k7 : PySem.W.keepIn K (.ref f7) = true)
    (a8 : PySem.W.findIn K (.ref C_Facts) "pieces" = some (some (.ref f8))) (i8 : PySem.W.isFn K (.ref f8) = true) (l8 : K.lookup f8 = some ⟨oc8, od8, .func (PySem.W.fnOf "pieces" "Facts.pieces" (defArgs s_Facts_pieces) (defBody s_Facts_pieces) (defScope s_Facts_pieces) .none kV8 dc8 pm8 an8 cd8 ct8), sl8⟩) (c8 : PySem.W.codeIn K cd8 "Facts.pieces" = true) (k8 : PySem.W.keepIn K (.ref f8) = true)
    (a9 : PySem.W.nsIn K mainGlobals "_law_mixed" = some (some (.ref f9))) (l9 : K.lookup f9 = some ⟨oc9, od9, .func (PySem.W.fnOf "_law_mixed" "_law_mixed" (defArgs s_law_mixed) (defBody s_law_mixed) (defScope s_law_mixed) .none kV9 dc9 pm9 an9 cd9 ct9), sl9⟩) (c9 : PySem.W.codeIn K cd9 "_law_mixed" = true) (k9 : PySem.W.keepIn K (.ref f9) = true)
    (a10 : PySem.W.nsIn K mainGlobals "_law_rest" = some (some (.ref f10))) (l10 : K.lookup f10 = some ⟨oc10, od10, .func (PySem.W.fnOf "_law_rest" "_law_rest" (defArgs s_law_rest) (defBody s_law_rest) (defScope s_law_rest) .none kV10 dc10 pm10 an10 cd10 ct10), sl10⟩) (c10 : PySem.W.codeIn K cd10 "_law_rest" = true) (k10 : PySem.W.keepIn K (.ref f10) = true)
    (a11 : PySem.W.nsIn K mainGlobals "_law_pool" = some (some (.ref f11))) (l11 : K.lookup f11 = some ⟨oc11, od11, .func (PySem.W.fnOf "_law_pool" "_law_pool" (defArgs s_law_pool) (defBody s_law_pool) (defScope s_law_pool) .none kV11 dc11 pm11 an11 cd11 ct11), sl11⟩) (c11 : PySem.W.codeIn K cd11 "_law_pool" = true) (k11 : PySem.W.keepIn K (.ref f11) = true)
    (a12 : PySem.W.nsIn K mainGlobals "_law_next" = some (some (.ref f12))) (l12 : K.lookup f12 = some ⟨oc12, od12, .func (PySem.W.fnOf "_law_next" "_law_next" (defArgs s_law_next) (defBody s_law_next) (defScope s_law_next) .none kV12 dc12 pm12 an12 cd12 ct12), sl12⟩) (c12 : PySem.W.codeIn K cd12 "_law_next" = true) (k12 : PySem.W.keepIn K (.ref f12) = true)
    (a13 : PySem.W.nsIn K mainGlobals "_law_draw" = some (some (.ref f13))) (l13 : K.lookup f13 = some ⟨oc13, od13, .func (PySem.W.fnOf "_law_draw" "_law_draw" (defArgs s_law_draw) (defBody s_law_draw) (defScope s_law_draw) .none kV13 dc13 pm13 an13 cd13 ct13), sl13⟩) (c13 : PySem.W.codeIn K cd13 "_law_draw" = true) (k13 : PySem.W.keepIn K (.ref f13) = true)
    (a14 : PySem.W.nsIn K mainGlobals "_law_pick" = some (some (.ref f14))) (l14 : K.lookup f14 = some ⟨oc14, od14, .func (PySem.W.fnOf "_law_pick" "_law_pick" (defArgs s_law_pick) (defBody s_law_pick) (defScope s_law_pick) .none kV14 dc14 pm14 an14 cd14 ct14), sl14⟩) (c14 : PySem.W.codeIn K cd14 "_law_pick" = true) (k14 : PySem.W.keepIn K (.ref f14) = true)
    (a15 : PySem.W.nsIn K mainGlobals "_law_same" = some (some (.ref f15))) (l15 : K.lookup f15 = some ⟨oc15, od15, .func (PySem.W.fnOf "_law_same" "_law_same" (defArgs s_law_same) (defBody s_law_same) (defScope s_law_same) .none kV15 dc15 pm15 an15 cd15 ct15), sl15⟩) (c15 : PySem.W.codeIn K cd15 "_law_same" = true) (k15 : PySem.W.keepIn K (.ref f15) = true)
    (a16 : PySem.W.nsIn K mainGlobals "_law_is_int" = some (some (.ref f16))) (l16 : K.lookup f16 = some ⟨oc16, od16, .func (PySem.W.fnOf "_law_is_int" "_law_is_int" (defArgs s_law_is_int) (defBody s_law_is_int) (defScope s_law_is_int) .none kV16 dc16 pm16 an16 cd16 ct16), sl16⟩) (c16 : PySem.W.codeIn K cd16 "_law_is_int" = true) (k16 : PySem.W.keepIn K (.ref f16) = true)
    (a17 : PySem.W.nsIn K mainGlobals "_law_holds" = some (some (.ref f17))) (l17 : K.lookup f17 = some ⟨oc17, od17, .func (PySem.W.fnOf "_law_holds" "_law_holds" (defArgs s_law_holds) (defBody s_law_holds) (defScope s_law_holds) .none kV17 dc17 pm17 an17 cd17 ct17), sl17⟩) (c17 : PySem.W.codeIn K cd17 "_law_holds" = true) (k17 : PySem.W.keepIn K (.ref f17) = true)
    (a18 : PySem.W.nsIn K mainGlobals "_law_span" = some (some (.ref f18))) (l18 : K.lookup f18 = some ⟨oc18, od18, .func (PySem.W.fnOf "_law_span" "_law_span" (defArgs s_law_span) (defBody s_law_span) (defScope s_law_span) .none kV18 dc18 pm18 an18 cd18 ct18), sl18⟩) (c18 : PySem.W.codeIn K cd18 "_law_span" = true) (k18 : PySem.W.keepIn K (.ref f18) = true)
    (a19 : PySem.W.nsIn K mainGlobals "_law_value" = some (some (.ref f19))) (l19 : K.lookup f19 = some ⟨oc19, od19, .func (PySem.W.fnOf "_law_value" "_law_value" (defArgs s_law_value) (defBody s_law_value) (defScope s_law_value) .none kV19 dc19 pm19 an19 cd19 ct19), sl19⟩) (c19 : PySem.W.codeIn K cd19 "_law_value" = true) (k19 : PySem.W.keepIn K (.ref f19) = true)
    (a20 : PySem.W.nsIn K mainGlobals "_law_periods" = some (some (.ref f20))) (l20 : K.lookup f20 = some ⟨oc20, od20, .func (PySem.W.fnOf "_law_periods" "_law_periods" (defArgs s_law_periods) (defBody s_law_periods) (defScope s_law_periods) .none kV20 dc20 pm20 an20 cd20 ct20), sl20⟩) (c20 : PySem.W.codeIn K cd20 "_law_periods" = true) (k20 : PySem.W.keepIn K (.ref f20) = true)
    (a21 : PySem.W.nsIn K mainGlobals "_law_pieces_right" = some (some (.ref f21))) (l21 : K.lookup f21 = some ⟨oc21, od21, .func (PySem.W.fnOf "_law_pieces_right" "_law_pieces_right" (defArgs s_law_pieces_right) (defBody s_law_pieces_right) (defScope s_law_pieces_right) .none kV21 dc21 pm21 an21 cd21 ct21), sl21⟩) (c21 : PySem.W.codeIn K cd21 "_law_pieces_right" = true) (k21 : PySem.W.keepIn K (.ref f21) = true)
    (a22 : PySem.W.nsIn K mainGlobals "_law_asked" = some (some (.ref f22))) (l22 : K.lookup f22 = some ⟨oc22, od22, .func (PySem.W.fnOf "_law_asked" "_law_asked" (defArgs s_law_asked) (defBody s_law_asked) (defScope s_law_asked) .none kV22 dc22 pm22 an22 cd22 ct22), sl22⟩) (c22 : PySem.W.codeIn K cd22 "_law_asked" = true) (k22 : PySem.W.keepIn K (.ref f22) = true)
    (a23 : PySem.W.nsIn K mainGlobals "law" = some (some (.ref f23))) (l23 : K.lookup f23 = some ⟨oc23, od23, .func (PySem.W.fnOf "law" "law" (defArgs s_law) (defBody s_law) (defScope s_law) .none kV23 dc23 pm23 an23 cd23 ct23), sl23⟩) (c23 : PySem.W.codeIn K cd23 "law" = true) (k23 : PySem.W.keepIn K (.ref f23) = true)
    (b_int : PySem.W.nsIn K mainGlobals "int" = some none)
    (b_len : PySem.W.nsIn K mainGlobals "len" = some none)
    (b_range : PySem.W.nsIn K mainGlobals "range" = some none)
    (b_str : PySem.W.nsIn K mainGlobals "str" = some none)
    (b_isinstance : PySem.W.nsIn K mainGlobals "isinstance" = some none)
    (b_all : PySem.W.nsIn K mainGlobals "all" = some none)
    (b_tuple : PySem.W.nsIn K mainGlobals "tuple" = some none)
    (b_dict : PySem.W.nsIn K mainGlobals "dict" = some none)
    (b_list : PySem.W.nsIn K mainGlobals "list" = some none)
    (b_bool : PySem.W.nsIn K mainGlobals "bool" = some none)
    (b_sorted : PySem.W.nsIn K mainGlobals "sorted" = some none)
    (b_reversed : PySem.W.nsIn K mainGlobals "reversed" = some none)
    (b_enumerate : PySem.W.nsIn K mainGlobals "enumerate" = some none)
    (b_min : PySem.W.nsIn K mainGlobals "min" = some none)
    : ∃ fd : FuncData, (∀ (s : Shared) (v : Value), BindsTo s fd ⟨[v], []⟩ [("script", v)]) ∧ ∀ base : Heap, K.In base → base.Ns mainGlobals mg → FnOk l.prog w K mg base CX0 6 fa fd ["script"] (spP K R_law) := by
  have e := hfa.symm.trans (PySem.W.mg_of X G a23)
  cases e
  have F_holds := fun_mk (st := s_holds) l1 c1 k1
  have b_holds := F_holds.binds (ps := ["first", "last", "period"]) fun _ _ _ _ _ _ us hl => match us, hl with | [_, _, _], _ => rfl
  have F_starts := fun_mk (st := s_starts) l2 c2 k2
  have b_starts := F_starts.binds (ps := ["spans", "first", "last"]) fun _ _ _ _ _ _ us hl => match us, hl with | [_, _, _], _ => rfl
  have F_ends := fun_mk (st := s_ends) l3 c3 k3
  have b_ends := F_ends.binds (ps := ["begun", "last"]) fun _ _ _ _ _ _ us hl => match us, hl with | [_, _], _ => rfl
  have F_Facts___init__ := fun_mk (st := s_Facts___init__) l4 c4 k4
  have b_Facts___init__ := F_Facts___init__.binds (ps := ["self", "default"]) fun _ _ _ _ _ _ us hl => match us, hl with | [_, _], _ => rfl
  have F_Facts_tell := fun_mk (st := s_Facts_tell) l5 c5 k5
  have b_Facts_tell := F_Facts_tell.binds (ps := ["self", "first", "last", "value"]) fun _ _ _ _ _ _ us hl => match us, hl with | [_, _, _, _], _ => rfl
  have F_Facts_at := fun_mk (st := s_Facts_at) l6 c6 k6
  have b_Facts_at := F_Facts_at.binds (ps := ["self", "period"]) fun _ _ _ _ _ _ us hl => match us, hl with | [_, _], _ => rfl
  have F_Facts_spans := fun_mk (st := s_Facts_spans) l7 c7 k7
  have b_Facts_spans := F_Facts_spans.binds (ps := ["self"]) fun _ _ _ _ _ _ us hl => match us, hl with | [_], _ => rfl
  have F_Facts_pieces := fun_mk (st := s_Facts_pieces) l8 c8 k8
  have b_Facts_pieces := F_Facts_pieces.binds (ps := ["self", "first", "last"]) fun _ _ _ _ _ _ us hl => match us, hl with | [_, _, _], _ => rfl
  have F_law_mixed := fun_mk (st := s_law_mixed) l9 c9 k9
  have b_law_mixed := F_law_mixed.binds (ps := ["number", "place"]) fun _ _ _ _ _ _ us hl => match us, hl with | [_, _], _ => rfl
  have F_law_rest := fun_mk (st := s_law_rest) l10 c10 k10
  have b_law_rest := F_law_rest.binds (ps := ["script", "place", "fills"]) fun _ _ _ _ _ _ us hl => match us, hl with | [_, _, _], _ => rfl
  have F_law_pool := fun_mk (st := s_law_pool) l11 c11 k11
  have b_law_pool := F_law_pool.binds (ps := ["script"]) fun _ _ _ _ _ _ us hl => match us, hl with | [_], _ => rfl
  have F_law_next := fun_mk (st := s_law_next) l12 c12 k12
  have b_law_next := F_law_next.binds (ps := ["pool"]) fun _ _ _ _ _ _ us hl => match us, hl with | [_], _ => rfl
  have F_law_draw := fun_mk (st := s_law_draw) l13 c13 k13
  have b_law_draw := F_law_draw.binds (ps := ["pool", "limit"]) fun _ _ _ _ _ _ us hl => match us, hl with | [_, _], _ => rfl
  have F_law_pick := fun_mk (st := s_law_pick) l14 c14 k14
  have b_law_pick := F_law_pick.binds (ps := ["pool", "options"]) fun _ _ _ _ _ _ us hl => match us, hl with | [_, _], _ => rfl
  have F_law_same := fun_mk (st := s_law_same) l15 c15 k15
  have b_law_same := F_law_same.binds (ps := ["answer", "due"]) fun _ _ _ _ _ _ us hl => match us, hl with | [_, _], _ => rfl
  have F_law_is_int := fun_mk (st := s_law_is_int) l16 c16 k16
  have b_law_is_int := F_law_is_int.binds (ps := ["value"]) fun _ _ _ _ _ _ us hl => match us, hl with | [_], _ => rfl
  have F_law_holds := fun_mk (st := s_law_holds) l17 c17 k17
  have b_law_holds := F_law_holds.binds (ps := ["first", "last", "period"]) fun _ _ _ _ _ _ us hl => match us, hl with | [_, _, _], _ => rfl
  have F_law_span := fun_mk (st := s_law_span) l18 c18 k18
  have b_law_span := F_law_span.binds (ps := ["pool"]) fun _ _ _ _ _ _ us hl => match us, hl with | [_], _ => rfl
  have F_law_value := fun_mk (st := s_law_value) l19 c19 k19
  have b_law_value := F_law_value.binds (ps := ["rows", "period", "default"]) fun _ _ _ _ _ _ us hl => match us, hl with | [_, _, _], _ => rfl
  have F_law_periods := fun_mk (st := s_law_periods) l20 c20 k20
  have b_law_periods := F_law_periods.binds (ps := ["rows", "first", "last"]) fun _ _ _ _ _ _ us hl => match us, hl with | [_, _, _], _ => rfl
  have F_law_pieces_right := fun_mk (st := s_law_pieces_right) l21 c21 k21
  have b_law_pieces_right := F_law_pieces_right.binds (ps := ["told", "rows", "default", "first", "last"]) fun _ _ _ _ _ _ us hl => match us, hl with | [_, _, _, _, _], _ => rfl
  have F_law_asked := fun_mk (st := s_law_asked) l22 c22 k22
  have b_law_asked := F_law_asked.binds (ps := ["pool", "facts", "rows", "default"]) fun _ _ _ _ _ _ us hl => match us, hl with | [_, _, _, _], _ => rfl
  have F_law := fun_mk (st := s_law) l23 c23 k23
  have b_law := F_law.binds (ps := ["script"]) fun _ _ _ _ _ _ us hl => match us, hl with | [_], _ => rfl
  have C : Bs2 mg := { b_int := PySem.W.mg_none_of X G b_int, b_len := PySem.W.mg_none_of X G b_len, b_range := PySem.W.mg_none_of X G b_range, b_str := PySem.W.mg_none_of X G b_str, b_isinstance := PySem.W.mg_none_of X G b_isinstance, b_all := PySem.W.mg_none_of X G b_all, b_tuple := PySem.W.mg_none_of X G b_tuple, b_dict := PySem.W.mg_none_of X G b_dict, b_list := PySem.W.mg_none_of X G b_list, b_bool := PySem.W.mg_none_of X G b_bool, b_sorted := PySem.W.mg_none_of X G b_sorted, b_reversed := PySem.W.mg_none_of X G b_reversed, b_enumerate := PySem.W.mg_none_of X G b_enumerate, b_min := PySem.W.mg_none_of X G b_min }
  refine ⟨PySem.W.fnOf "law" "law" (defArgs s_law) (defBody s_law) (defScope s_law) .none kV23 dc23 pm23 an23 cd23 ct23, fun s v => .of_eq rfl, fun base _ _ => ?_⟩
  have X0 := X
  have T_Facts : ClF K C_Facts FSf := ⟨⟨pg_Facts, hd_Facts, po_Facts, sa_Facts⟩, fun f hf => by simp only [FSf, List.mem_cons, List.not_mem_nil, or_false] at hf; rcases hf with rfl | rfl <;> assumption⟩
  have c_holds : CaP l.prog w K mg base "holds" 1 R_holds := ⟨mo_holds, _, _, _, PySem.W.mg_of X G a1, k1, b_holds, ok_holds F_holds⟩
  have c_starts : CaP l.prog w K mg base "starts" 1 R_starts := ⟨mo_starts, _, _, _, PySem.W.mg_of X G a2, k2, b_starts, ok_starts C F_starts⟩
  have c_ends : CaP l.prog w K mg base "ends" 1 R_ends := ⟨mo_ends, _, _, _, PySem.W.mg_of X G a3, k3, b_ends, ok_ends C F_ends⟩
  have m_Facts : CaM l.prog w K mg base "Facts" 1 C_Facts (R_init C_Facts) := ⟨mo_init _, PySem.W.mg_of X G aC_Facts, _, _, _, ⟨mk_Facts, a4, i4, kc_Facts⟩, b_Facts___init__, ok_init T_Facts F_Facts___init__⟩
  have m_tell : CaHS l.prog w K mg base C_Facts "tell" 1 (R_tell C_Facts) := ⟨mo_tell _, ⟨⟨pg_Facts, hd_Facts, po_Facts, sa_Facts⟩, _, _, _, ⟨a5, i5, k5⟩, b_Facts_tell, ok_tell T_Facts F_Facts_tell⟩⟩
  have m_at : CaHP l.prog w K mg base C_Facts "at" 2 (R_at C_Facts) := ⟨mo_at _, ⟨⟨pg_Facts, hd_Facts, po_Facts, sa_Facts⟩, _, _, _, ⟨a6, i6, k6⟩, b_Facts_at, ok_at C T_Facts c_holds F_Facts_at⟩⟩
  have m_spans : CaHP l.prog w K mg base C_Facts "spans" 1 (R_spans C_Facts) := ⟨mo_spans _, ⟨⟨pg_Facts, hd_Facts, po_Facts, sa_Facts⟩, _, _, _, ⟨a7, i7, k7⟩, b_Facts_spans, ok_spans T_Facts F_Facts_spans⟩⟩
  have m_pieces : CaHP l.prog w K mg base C_Facts "pieces" 3 (R_pieces C_Facts) := ⟨mo_pieces _, ⟨⟨pg_Facts, hd_Facts, po_Facts, sa_Facts⟩, _, _, _, ⟨a8, i8, k8⟩, b_Facts_pieces, ok_pieces C T_Facts c_ends c_starts m_spans m_at F_Facts_pieces⟩⟩
  have c_law_mixed : CaP l.prog w K mg base "_law_mixed" 1 R_mixed := ⟨mo_mixed, _, _, _, PySem.W.mg_of X G a9, k9, b_law_mixed, ok_law_mixed C.toBs F_law_mixed⟩
  have c_law_rest : CaP l.prog w K mg base "_law_rest" 2 R_rest := ⟨mo_rest, _, _, _, PySem.W.mg_of X G a10, k10, b_law_rest, ok_law_rest C.toBs c_law_mixed F_law_rest⟩
  have c_law_pool : CaP l.prog w K mg base "_law_pool" 3 R_pool := ⟨mo_pool, _, _, _, PySem.W.mg_of X G a11, k11, b_law_pool, ok_law_pool C.toBs c_law_rest F_law_pool⟩
  have c_law_next : CaC l.prog w K mg base "_law_next" 3 R_next := ⟨mo_next, _, _, _, PySem.W.mg_of X G a12, k12, b_law_next, ok_law_next C.toBs c_law_rest F_law_next⟩
  have c_law_draw : CaC l.prog w K mg base "_law_draw" 3 R_draw := ⟨mo_draw, _, _, _, PySem.W.mg_of X G a13, k13, b_law_draw, ok_law_draw C.toBs c_law_rest F_law_draw⟩
  have c_law_pick : CaC l.prog w K mg base "_law_pick" 4 R_pick := ⟨mo_pick, _, _, _, PySem.W.mg_of X G a14, k14, b_law_pick, ok_law_pick C.toBs c_law_draw F_law_pick⟩
  have c0_law_same : CaP l.prog w K mg base "_law_same" 0 R_vac := ⟨mo_vac, _, _, _, PySem.W.mg_of X G a15, k15, b_law_same, fn_vac fun _ _ h => h⟩
  have c1_law_same : CaP l.prog w K mg base "_law_same" 1 R_st := ⟨mo_st, _, _, _, PySem.W.mg_of X G a15, k15, b_law_same, ok_st C c0_law_same F_law_same⟩
  have c_law_same : CaP l.prog w K mg base "_law_same" 2 R_sv := ⟨mo_sv, _, _, _, PySem.W.mg_of X G a15, k15, b_law_same, ok_sv C c1_law_same F_law_same⟩
  have c_law_is_int : CaP l.prog w K mg base "_law_is_int" 1 R_isint := ⟨mo_isint, _, _, _, PySem.W.mg_of X G a16, k16, b_law_is_int, ok_isint C F_law_is_int⟩
  have c_law_holds : CaP l.prog w K mg base "_law_holds" 1 R_holds := ⟨mo_holds, _, _, _, PySem.W.mg_of X G a17, k17, b_law_holds, ok_lholds F_law_holds⟩
  have c_law_span : CaC l.prog w K mg base "_law_span" 4 R_span := ⟨mo_span, _, _, _, PySem.W.mg_of X G a18, k18, b_law_span, ok_span C c_law_draw F_law_span⟩
  have c_law_value : CaP l.prog w K mg base "_law_value" 2 R_lval := ⟨mo_lval, _, _, _, PySem.W.mg_of X G a19, k19, b_law_value, ok_lval C c_law_holds F_law_value⟩
  have c_law_periods : CaP l.prog w K mg base "_law_periods" 2 R_per := ⟨mo_per, _, _, _, PySem.W.mg_of X G a20, k20, b_law_periods, ok_per C c_law_holds F_law_periods⟩
  have c_law_pieces_right : CaP l.prog w K mg base "_law_pieces_right" 3 R_pr := ⟨mo_pr, _, _, _, PySem.W.mg_of X G a21, k21, b_law_pieces_right, ok_pr C c_law_same c_law_is_int c_law_periods c_law_value F_law_pieces_right⟩
  have c_law_asked : CaS l.prog w K mg base "_law_asked" 5 (R_asked C_Facts) := ⟨mo_asked _, _, _, _, PySem.W.mg_of X G a22, k22, b_law_asked, ok_asked C T_Facts c_law_periods c_law_draw c_law_same c_law_value c_law_span c_law_pieces_right m_at m_pieces F_law_asked⟩
  exact ok_law C c_law_pool c_law_next c_law_draw c_law_pick c_law_span c_law_asked m_Facts m_tell F_law
end W
open PySem PySem.W PyProof.Rows
set_option maxHeartbeats 0
theorem PySem.Challenge.cw_networth_k79_facts_with_spans_holds : PySem.Challenge.rw_networth_k79_facts_with_spans.Holds := by
  w_on; o_law; k_head; (case hw => w_witness2)
  k_fill
  refine L2.walk_of (l := PySem.Challenge.rw_networth_k79_facts_with_spans) (n := 63) (k := 6) (x := "script") (CX := fun _ => L2.CX0) (sp := fun w => DL.spP _ W.R_law) rfl (by decide) rfl ⟨rfl, by decide, by decide⟩ (fun w h Y => PySem.W.kIn_of Y) ?F (fun _ H a ns hl _ hS => W.law_sp hS hl) (fun _ _ _ _ _ h => h)
  case F =>
    intro w mg fa h KX G hmg
    refine' W.all_mk KX G hmg ?aC_Facts ?pg_Facts ?hd_Facts ?po_Facts ?sa_Facts ?mk_Facts ?kc_Facts ?n_Facts_default ?n_Facts_rows ?a1 ?l1 ?c1 ?k1 ?a2 ?l2 ?c2 ?k2 ?a3 ?l3 ?c3 ?k3 ?a4 ?i4 ?l4 ?c4 ?k4 ?a5 ?i5 ?l5 ?c5 ?k5 ?a6 ?i6 ?l6 ?c6 ?k6 ?a7 ?i7 ?l7 ?c7 ?k7 ?a8 ?i8 ?l8 ?c8 ?k8 ?a9 ?l9 ?c9 ?k9 ?a10 ?l10 ?c10 ?k10 ?a11 ?l11 ?c11 ?k11 ?a12 ?l12 ?c12 ?k12 ?a13 ?l13 ?c13 ?k13 ?a14 ?l14 ?c14 ?k14 ?a15 ?l15 ?c15 ?k15 ?a16 ?l16 ?c16 ?k16 ?a17 ?l17 ?c17 ?k17 ?a18 ?l18 ?c18 ?k18 ?a19 ?l19 ?c19 ?k19 ?a20 ?l20 ?c20 ?k20 ?a21 ?l21 ?c21 ?k21 ?a22 ?l22 ?c22 ?k22 ?a23 ?l23 ?c23 ?k23 ?b_int ?b_len ?b_range ?b_str ?b_isinstance ?b_all ?b_tuple ?b_dict ?b_list ?b_bool ?b_sorted ?b_reversed ?b_enumerate ?b_min
    (case aC_Facts => k_is)
    (case pg_Facts => k_is)
    (case hd_Facts => k_is)
    (case po_Facts => k_is)
    (case sa_Facts => k_is)
    (case mk_Facts => k_is)
    (case kc_Facts => k_is)
    (case n_Facts_default => k_is)
    (case n_Facts_rows => k_is)
    (case a1 => k_is)
    (case l1 => k_is)
    (case c1 => k_is)
    (case k1 => k_is)
    (case a2 => k_is)
    (case l2 => k_is)
    (case c2 => k_is)
    (case k2 => k_is)
    (case a3 => k_is)
    (case l3 => k_is)
    (case c3 => k_is)
    (case k3 => k_is)
    (case a4 => k_is)
    (case i4 => k_is)
    (case l4 => k_is)
    (case c4 => k_is)
    (case k4 => k_is)
    (case a5 => k_is)
    (case i5 => k_is)
    (case l5 => k_is)
    (case c5 => k_is)
    (case k5 => k_is)
    (case a6 => k_is)
    (case i6 => k_is)
    (case l6 => k_is)
    (case c6 => k_is)
    (case k6 => k_is)
    (case a7 => k_is)
    (case i7 => k_is)
    (case l7 => k_is)
    (case c7 => k_is)
    (case k7 => k_is)
    (case a8 => k_is)
    (case i8 => k_is)
    (case l8 => k_is)
    (case c8 => k_is)
    (case k8 => k_is)
    (case a9 => k_is)
    (case l9 => k_is)
    (case c9 => k_is)
    (case k9 => k_is)
    (case a10 => k_is)
    (case l10 => k_is)
    (case c10 => k_is)
    (case k10 => k_is)
    (case a11 => k_is)
    (case l11 => k_is)
    (case c11 => k_is)
    (case k11 => k_is)
    (case a12 => k_is)
    (case l12 => k_is)
    (case c12 => k_is)
    (case k12 => k_is)
    (case a13 => k_is)
    (case l13 => k_is)
    (case c13 => k_is)
    (case k13 => k_is)
    (case a14 => k_is)
    (case l14 => k_is)
    (case c14 => k_is)
    (case k14 => k_is)
    (case a15 => k_is)
    (case l15 => k_is)
    (case c15 => k_is)
    (case k15 => k_is)
    (case a16 => k_is)
    (case l16 => k_is)
    (case c16 => k_is)
    (case k16 => k_is)
    (case a17 => k_is)
    (case l17 => k_is)
    (case c17 => k_is)
    (case k17 => k_is)
    (case a18 => k_is)
    (case l18 => k_is)
    (case c18 => k_is)
    (case k18 => k_is)
    (case a19 => k_is)
    (case l19 => k_is)
    (case c19 => k_is)
    (case k19 => k_is)
    (case a20 => k_is)
    (case l20 => k_is)
    (case c20 => k_is)
    (case k20 => k_is)
    (case a21 => k_is)
    (case l21 => k_is)
    (case c21 => k_is)
    (case k21 => k_is)
    (case a22 => k_is)
    (case l22 => k_is)
    (case c22 => k_is)
    (case k22 => k_is)
    (case a23 => k_is)
    (case l23 => k_is)
    (case c23 => k_is)
    (case k23 => k_is)
    (case b_int => k_is)
    (case b_len => k_is)
    (case b_range => k_is)
    (case b_str => k_is)
    (case b_isinstance => k_is)
    (case b_all => k_is)
    (case b_tuple => k_is)
    (case b_dict => k_is)
    (case b_list => k_is)
    (case b_bool => k_is)
    (case b_sorted => k_is)
    (case b_reversed => k_is)
    (case b_enumerate => k_is)
    (case b_min => k_is)
