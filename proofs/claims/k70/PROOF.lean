import PyProof.Rows.All
import Wide.All
import OpenK.AllK
import Wide.FinOn
import HandS.ForMost
import HandS.Wide
import HandS.Gcd
import HandS.DictComp
import HandS.IsInst
import HandS.Finally
import HandS.TryOnly
import HandS.Text
import HandS.More
import PySem.Challenge.RW_networth_k70_payment_of_rights
set_option Elab.async false
set_option linter.all false
set_option maxRecDepth 100000
set_option maxHeartbeats 4000000
/-! DL: data in place of heaps. A def's walk over data (D), frozen or owned. -/
namespace DL
open PySem PySem.Spec PyProof.Rows L2
inductive Kd where
  | tup | lst | dct (ks : List Key) | ins (C : Addr) (fs : List Str)
inductive D where
  | non | bl (b : Bool) | int (i : Int) | str (x : Str) | nd (k : Kd) (ds : List D)
def NodeAt (K : PySem.W.Frag) (G : Hp) (a : Addr) (vs : List V) : Kd → Prop
  | .tup => SqT K G a vs
  | .lst => SqL K G a vs
  | .dct ks => ks.length = vs.length ∧ ks.Nodup ∧ ∃ od, G a = some (.frz od (.dK (ks.zip vs)))
  | .ins C fs => fs.length = vs.length ∧ ∃ dx, G a = some (.ins C dx (fs.zip vs))
mutual
inductive Rep (K : PySem.W.Frag) (G : Hp) : V → D → Prop
  | non : Rep K G .non .non
  | bl (b : Bool) : Rep K G (.bl b) (.bl b)
  | int (i : Int) : Rep K G (.int i) (.int i)
  | str (x : Str) : Rep K G (.str x) (.str x)
  | nd {a : Addr} {vs : List V} {k : Kd} {ds : List D} : NodeAt K G a vs k → Reps K G vs ds → Rep K G (.ref a) (.nd k ds)
inductive Reps (K : PySem.W.Frag) (G : Hp) : List V → List D → Prop
  | nil : Reps K G [] []
  | cons {v : V} {d : D} {vs : List V} {ds : List D} : Rep K G v d → Reps K G vs ds → Reps K G (v :: vs) (d :: ds)
end
theorem SqT.mono {K : PySem.W.Frag} {G G' : Hp} {a : Addr} {xs : List V} (e : Same G G') (h : SqT K G a xs) : SqT K G' a xs := by
  rcases h with (h | ⟨o, h⟩) | h
  · exact .inl (.inl (e _ _ h))
  · exact .inl (.inr ⟨o, e _ _ h⟩)
  · exact .inr h
theorem NodeAt.mono {K : PySem.W.Frag} {G G' : Hp} {a : Addr} {vs : List V} (e : Same G G') : ∀ {k : Kd}, NodeAt K G a vs k → NodeAt K G' a vs k
  | .tup, h => SqT.mono e h
  | .lst, h => e.seq h
  | .dct ks, ⟨h1, h2, od, h3⟩ => ⟨h1, h2, od, e _ _ h3⟩
  | .ins C fs, ⟨h1, dx, h2⟩ => ⟨h1, dx, e _ _ h2⟩
mutual
theorem Rep.mono {K : PySem.W.Frag} {G G' : Hp} (e : Same G G') : ∀ {v : V} {d : D}, Rep K G v d → Rep K G' v d
  | _, _, .non => .non
  | _, _, .bl b => .bl b
  | _, _, .int i => .int i
  | _, _, .str x => .str x
  | _, _, .nd n r => .nd (n.mono e) (Reps.mono e r)
theorem Reps.mono {K : PySem.W.Frag} {G G' : Hp} (e : Same G G') : ∀ {vs : List V} {ds : List D}, Reps K G vs ds → Reps K G' vs ds
  | _, _, .nil => .nil
  | _, _, .cons h t => .cons (Rep.mono e h) (Reps.mono e t)
end
theorem Reps.length {K : PySem.W.Frag} {G : Hp} : ∀ {vs : List V} {ds : List D}, Reps K G vs ds → vs.length = ds.length
  | _, _, .nil => rfl
  | _, _, .cons _ t => by simp [Reps.length t]
theorem Reps.get {K : PySem.W.Frag} {G : Hp} : ∀ {vs : List V} {ds : List D} {i : Nat} {d : D}, Reps K G vs ds → ds[i]? = some d → ∃ v, vs[i]? = some v ∧ Rep K G v d
  | _, _, _, _, .nil, e => by simp at e
  | _, _, 0, _, .cons r _, e => by simp at e; subst e; exact ⟨_, rfl, r⟩
  | _, _, i + 1, _, .cons _ t, e => by
    obtain ⟨v, h1, h2⟩ := Reps.get (i := i) t (by simpa using e)
    exact ⟨v, by simpa using h1, h2⟩
theorem Reps.get' {K : PySem.W.Frag} {G : Hp} : ∀ {vs : List V} {ds : List D} {i : Nat} {v : V}, Reps K G vs ds → vs[i]? = some v → ∃ d, ds[i]? = some d ∧ Rep K G v d
  | _, _, _, _, .nil, e => by simp at e
  | _, _, 0, _, .cons r _, e => by simp at e; subst e; exact ⟨_, rfl, r⟩
  | _, _, i + 1, _, .cons _ t, e => by
    obtain ⟨v, h1, h2⟩ := Reps.get' (i := i) t (by simpa using e)
    exact ⟨v, by simpa using h1, h2⟩
theorem Reps.append {K : PySem.W.Frag} {G : Hp} : ∀ {vs ws : List V} {ds es : List D}, Reps K G vs ds → Reps K G ws es → Reps K G (vs ++ ws) (ds ++ es)
  | _, _, _, _, .nil, h => h
  | _, _, _, _, .cons r t, h => .cons r (Reps.append t h)
theorem Reps.take {K : PySem.W.Frag} {G : Hp} : ∀ {vs : List V} {ds : List D} (n : Nat), Reps K G vs ds → Reps K G (vs.take n) (ds.take n)
  | _, _, 0, _ => .nil
  | _, _, _ + 1, .nil => .nil
  | _, _, n + 1, .cons r t => .cons r (Reps.take n t)
theorem Reps.drop {K : PySem.W.Frag} {G : Hp} : ∀ {vs : List V} {ds : List D} (n : Nat), Reps K G vs ds → Reps K G (vs.drop n) (ds.drop n)
  | _, _, 0, r => r
  | _, _, _ + 1, .nil => .nil
  | _, _, n + 1, .cons _ t => Reps.drop n t
/-! ### values, cells, states -/
inductive E where
  | d (x : D) | r (k : Nat)
inductive Cell where
  | gone | nd (k : Kd) (es : List E)
/-- slots, cells; ar: as many of the first cells are the arguments' -/
structure S where
  sl : List (Option E)
  ce : List Cell
  ar : Nat := 0
def nth {α : Type} : List α → Nat → Option α
  | [], _ => none
  | x :: _, 0 => some x
  | _ :: r, n + 1 => nth r n
theorem nth_eq {α : Type} : ∀ (l : List α) (n : Nat), nth l n = l[n]?
  | [], n => by simp [nth]
  | x :: r, 0 => by simp [nth]
  | x :: r, n + 1 => by simp [nth, nth_eq r n]
def setN {α : Type} : List α → Nat → α → List α
  | [], _, _ => []
  | _ :: r, 0, y => y :: r
  | x :: r, n + 1, y => x :: setN r n y
theorem setN_eq {α : Type} : ∀ (l : List α) (n : Nat) (y : α), setN l n y = l.set n y
  | [], n, y => by simp [setN]
  | x :: r, 0, y => by simp [setN]
  | x :: r, n + 1, y => by simp [setN, setN_eq r n y]
abbrev VE (K : PySem.W.Frag) (G : Hp) (as : List Addr) (v : V) : E → Prop
  | .d x => Rep K G v x
  | .r k => ∃ a, as[k]? = some a ∧ v = .ref a
theorem pre_get {α : Type} {as as' : List α} (p : as <+: as') {k : Nat} {a : α} (h : as[k]? = some a) : as'[k]? = some a := by
  obtain ⟨t, rfl⟩ := p
  rw [List.getElem?_append_left (List.getElem?_eq_some_iff.mp h).1]
  exact h
theorem VE.mono {K : PySem.W.Frag} {G G' : Hp} {as as' : List Addr} (p : as <+: as') (e : Same G G') {v : V} : ∀ {x : E}, VE K G as v x → VE K G' as' v x
  | .d _, h => Rep.mono e h
  | .r _, ⟨a, h1, h2⟩ => ⟨a, pre_get p h1, h2⟩
abbrev VEs (K : PySem.W.Frag) (G : Hp) (as : List Addr) : List V → List E → Prop := Paired (VE K G as)
theorem VEs.mono {K : PySem.W.Frag} {G G' : Hp} {as as' : List Addr} (p : as <+: as') (e : Same G G') {vs : List V} {es : List E} (h : VEs K G as vs es) : VEs K G' as' vs es :=
  Paired.mapP h fun _ _ q => q.mono p e
theorem VEs.ofReps {K : PySem.W.Frag} {G : Hp} {as : List Addr} : ∀ {vs : List V} {ds : List D}, Reps K G vs ds → VEs K G as vs (ds.map .d)
  | _, _, .nil => .nil
  | _, _, .cons h t => .cons h (VEs.ofReps t)
theorem VEs.reps {K : PySem.W.Frag} {G : Hp} {as : List Addr} : ∀ {vs : List V} {ds : List D}, VEs K G as vs (ds.map .d) → Reps K G vs ds
  | [], [], _ => .nil
  | _ :: _, _ :: _, .cons h t => .cons h (VEs.reps t)
theorem VEs.get {K : PySem.W.Frag} {G : Hp} {as : List Addr} {vs : List V} {es : List E} {i : Nat} {v : V} (h : VEs K G as vs es) (e : vs[i]? = some v) : ∃ x, es[i]? = some x ∧ VE K G as v x := paired_get h e
theorem VEs.get' {K : PySem.W.Frag} {G : Hp} {as : List Addr} : ∀ {vs : List V} {es : List E} {i : Nat} {x : E}, VEs K G as vs es → es[i]? = some x → ∃ v, vs[i]? = some v ∧ VE K G as v x
  | _, _, _, _, .nil, e => by simp at e
  | _, _, 0, _, .cons r _, e => by simp at e; subst e; exact ⟨_, rfl, r⟩
  | _, _, i + 1, _, .cons _ t, e => by
    obtain ⟨v, h1, h2⟩ := VEs.get' (i := i) t (by simpa using e)
    exact ⟨v, by simpa using h1, h2⟩
def CellAt (H : Hp) (a : Addr) (vs : List V) : Kd → Prop
  | .tup => False
  | .lst => H a = some (.lst vs)
  | .dct ks => ks.length = vs.length ∧ ks.Nodup ∧ ∃ od, H a = some (.frz od (.dK (ks.zip vs)))
  | .ins C fs => fs.length = vs.length ∧ ∃ dx, H a = some (.ins C dx (fs.zip vs))
theorem CellAt.keep {H H' : Hp} {a : Addr} {vs : List V} (h : ∀ o, H a = some o → H' a = some o) : ∀ {k : Kd}, CellAt H a vs k → CellAt H' a vs k
  | .tup, x => x
  | .lst, x => h _ x
  | .dct ks, ⟨x1, x2, od, x3⟩ => ⟨x1, x2, od, h _ x3⟩
  | .ins C fs, ⟨x, dx, y⟩ => ⟨x, dx, h _ y⟩
theorem CellAt.some {H : Hp} {a : Addr} {vs : List V} : ∀ {k : Kd}, CellAt H a vs k → ∃ o, H a = some o
  | .tup, x => x.elim
  | .lst, x => ⟨_, x⟩
  | .dct ks, ⟨_, _, _, x⟩ => ⟨_, x⟩
  | .ins C fs, ⟨_, dx, y⟩ => ⟨_, y⟩
/-- a def's entry: what was frozen, the heap, the owned arguments; ow: the slots that own -/
structure Fr where
  G0 : Hp
  H0 : Hp
  A0 : List Addr
structure Cz (X : Cx) (F : Fr) (as : List Addr) (G H : Hp) (σ : L2.St) (s : S) : Prop where
  sub : Same G H
  base : Same F.G0 G
  new : ∀ b, F.G0 b = none → F.H0 b ≠ none → G b = none
  frame : ∀ b o, F.H0 b = some o → b ∉ F.A0 → H b = some o
  len : as.length = s.ce.length
  pre : F.A0 <+: as
  nd : as.Nodup
  own : ∀ (k : Nat) (a : Addr) (kd : Kd) (es : List E), as[k]? = some a → s.ce[k]? = some (.nd kd es) → G a = none
  fresh : ∀ a ∈ as, a ∈ F.A0 ∨ F.H0 a = none
  there : ∀ a ∈ as, H a ≠ none
  cells : ∀ (k : Nat) (kd : Kd) (es : List E), s.ce[k]? = some (.nd kd es) → ∃ a vs, as[k]? = some a ∧ CellAt H a vs kd ∧ VEs X.K G as vs es
  slots : ∀ (i : Nat) (e : E), s.sl[i]? = some (some e) → ∃ v, σ[i]? = some (some v) ∧ VE X.K G as v e
  slen : s.sl.length = σ.length
  har : F.A0.length = s.ar
/-- what an answer must bear: further owned addresses, more frozen -/
structure Ext (as as' : List Addr) (G G' : Hp) : Prop where
  pre : as <+: as'
  sub : Same G G'
theorem Ext.refl (as : List Addr) (G : Hp) : Ext as as G G := ⟨List.prefix_refl _, Same.refl _⟩
theorem Ext.trans {a b c : List Addr} {G1 G2 G3 : Hp} (x : Ext a b G1 G2) (y : Ext b c G2 G3) : Ext a c G1 G3 := ⟨x.pre.trans y.pre, x.sub.trans y.sub⟩
theorem Ext.ve {K : PySem.W.Frag} {a b : List Addr} {G G' : Hp} (x : Ext a b G G') {v : V} {e : E} (h : VE K G a v e) : VE K G' b v e := h.mono x.pre x.sub
theorem Ext.ves {K : PySem.W.Frag} {a b : List Addr} {G G' : Hp} (x : Ext a b G G') {v : List V} {e : List E} (h : VEs K G a v e) : VEs K G' b v e := h.mono x.pre x.sub
/-! ### what the code does, as readings -/
def semE (X : Cx) (e : Expr) : TE := fun σ H Q => ∀ pins s, Inv X pins σ H s → wpAny (model X.prog X.w) X.A (eval e X.env) (EP X pins σ Q) X.xe s
theorem pe_sem (X : Cx) (e : Expr) : PE X e (semE X e) := ⟨fun pins s σ H Q I h => h pins s I⟩
theorem PE.sem {X : Cx} {e : Expr} {t : TE} (h : PE X e t) {σ : L2.St} {H : Hp} {Q : VK} (q : t σ H Q) : semE X e σ H Q := fun pins s I => h.run pins s σ H Q I q
def semT (X : Cx) (e : Expr) : TT := fun σ H Q => ∀ pins s, Inv X pins σ H s → wpAny (model X.prog X.w) X.A (isTrue e X.env (eval e X.env)) (TP X pins σ Q) X.xe s
theorem pt_sem (X : Cx) (e : Expr) : PT X e (semT X e) := ⟨fun pins s σ H Q I h => h pins s I⟩
theorem PT.sem {X : Cx} {e : Expr} {t : TT} (h : PT X e t) {σ : L2.St} {H : Hp} {Q : Bool → Hp → Prop} (q : t σ H Q) : semT X e σ H Q := fun pins s I => h.run pins s σ H Q I q
def semW (X : Cx) (e : Expr) : TT := fun σ H Q => ∀ whole pins s, Inv X pins σ H s → wpAny (model X.prog X.w) X.A (isTrue e X.env whole) (TP X pins σ Q) X.xe s
theorem pw_sem (X : Cx) (e : Expr) : PW X e (semW X e) := ⟨fun wh pins s σ H Q I h => h wh pins s I⟩
theorem PW.sem {X : Cx} {e : Expr} {t : TT} (h : PW X e t) {σ : L2.St} {H : Hp} {Q : Bool → Hp → Prop} (q : t σ H Q) : semW X e σ H Q := fun wh pins s I => h.run wh pins s σ H Q I q
def semA (X : Cx) (es : List Expr) : TA := fun σ H Q => ∀ (pos : Pos) pins s, Inv X pins σ H s → wpAny (model X.prog X.w) X.A (spliced (backTo pos (starEach es X.env))) (AP X pins σ Q) X.xe s
theorem pa_sem (X : Cx) (es : List Expr) : PA X es (semA X es) := ⟨fun pos pins s σ H Q I h => h pos pins s I⟩
theorem PA.sem {X : Cx} {es : List Expr} {t : TA} (h : PA X es t) {σ : L2.St} {H : Hp} {Q : List V → Hp → Prop} (q : t σ H Q) : semA X es σ H Q := fun pos pins s I => h.run pos pins s σ H Q I q
def semS (X : Cx) (st : Stmt) : TS := fun D σ H => ∀ pins s, Inv X pins σ H s → wpAny (model X.prog X.w) X.A (exec st X.env) (SP X pins D) X.xe s
theorem ps_sem (X : Cx) (st : Stmt) : PS X st (semS X st) := ⟨fun pins s σ H D I h => h pins s I⟩
theorem PS.sem {X : Cx} {st : Stmt} {t : TS} (h : PS X st t) {σ : L2.St} {H : Hp} {D : Ends} (q : t D σ H) : semS X st D σ H := fun pins s I => h.run pins s σ H D I q
def semSs (X : Cx) (st : List Stmt) : TS := fun D σ H => ∀ pins s, Inv X pins σ H s → wpAny (model X.prog X.w) X.A (execs st X.env) (SP X pins D) X.xe s
theorem pss_sem (X : Cx) (st : List Stmt) : PSs X st (semSs X st) := ⟨fun pins s σ H D I h => h pins s I⟩
theorem PSs.sem {X : Cx} {st : List Stmt} {t : TS} (h : PSs X st t) {σ : L2.St} {H : Hp} {D : Ends} (q : t D σ H) : semSs X st D σ H := fun pins s I => h.run pins s σ H D I q
def semG (X : Cx) (tg : Expr) : TG := fun v σ H Q => ∀ pins s u, Inv X pins σ H s → RelV v u → wpAny (model X.prog X.w) X.A (assign tg X.env u) (fun _ s' => ∃ σ' H', Inv X pins σ' H' s' ∧ Q σ' H') X.xe s
theorem pg_sem (X : Cx) (tg : Expr) : PG X tg (semG X tg) := ⟨fun pins s σ H v u Q I r h => h pins s u I r⟩
theorem PG.sem {X : Cx} {tg : Expr} {t : TG} (h : PG X tg t) {v : V} {σ : L2.St} {H : Hp} {Q : L2.St → Hp → Prop} (q : t v σ H Q) : semG X tg v σ H Q := fun pins s u I r => h.run pins s σ H v u Q I r q
def semR2 (X : Cx) (f : Value → Value → Sem Value) : R2 := fun x y H Q => ∀ pins s σ v u, Inv X pins σ H s → RelV x v → RelV y u → wpAny (model X.prog X.w) X.A (f v u) (EP X pins σ Q) X.xe s
theorem op_sem (X : Cx) (f : Value → Value → Sem Value) : OpR X f (semR2 X f) := fun pins s σ H x y v u Q I rx ry h => h pins s σ v u I rx ry
/-! ### judgements over data -/
section
variable (X : Cx) (F : Fr)
def JE (e : Expr) (s : S) (Φ : E → S → Prop) : Prop := ∀ as G H σ (Q : VK), Cz X F as G H σ s →
  (∀ v as' G' H' e' s', Cz X F as' G' H' σ s' → Ext as as' G G' → VE X.K G' as' v e' → Φ e' s' → Q v H') → semE X e σ H Q
def JT (e : Expr) (s : S) (Φ : Bool → S → Prop) : Prop := ∀ as G H σ (Q : Bool → Hp → Prop), Cz X F as G H σ s →
  (∀ b as' G' H' s', Cz X F as' G' H' σ s' → Ext as as' G G' → Φ b s' → Q b H') → semT X e σ H Q
def JW (e : Expr) (s : S) (Φ : Bool → S → Prop) : Prop := ∀ as G H σ (Q : Bool → Hp → Prop), Cz X F as G H σ s →
  (∀ b as' G' H' s', Cz X F as' G' H' σ s' → Ext as as' G G' → Φ b s' → Q b H') → semW X e σ H Q
def JA (es : List Expr) (s : S) (Φ : List E → S → Prop) : Prop := ∀ as G H σ (Q : List V → Hp → Prop), Cz X F as G H σ s →
  (∀ vs as' G' H' es' s', Cz X F as' G' H' σ s' → Ext as as' G G' → VEs X.K G' as' vs es' → Φ es' s' → Q vs H') → semA X es σ H Q
/-- an operation on two values -/
def JR (f : Value → Value → Sem Value) (e1 e2 : E) (s : S) (Φ : E → S → Prop) : Prop := ∀ as G H σ x y (Q : VK), Cz X F as G H σ s → VE X.K G as x e1 → VE X.K G as y e2 →
  (∀ v as' G' H' e' s', Cz X F as' G' H' σ s' → Ext as as' G G' → VE X.K G' as' v e' → Φ e' s' → Q v H') → semR2 X f x y H Q
/-- an operation on one value, or several: what comes of them is wanted by r -/
def JV (r : List V → Hp → VK → Prop) (es : List E) (s : S) (Φ : E → S → Prop) : Prop := ∀ as G H σ vs (Q : VK), Cz X F as G H σ s → VEs X.K G as vs es →
  (∀ v as' G' H' e' s', Cz X F as' G' H' σ s' → Ext as as' G G' → VE X.K G' as' v e' → Φ e' s' → Q v H') → r vs H Q
/-- a store into a target -/
def JG (tg : Expr) (e : E) (s : S) (Φ : S → Prop) : Prop := ∀ as G H σ v (Q : L2.St → Hp → Prop), Cz X F as G H σ s → VE X.K G as v e →
  (∀ as' G' H' σ' s', Cz X F as' G' H' σ' s' → Ext as as' G G' → Φ s' → Q σ' H') → semG X tg v σ H Q
structure Po where
  nx : S → Prop
  rt : E → S → Prop
  bk : S → Prop := fun _ => False
  ct : S → Prop := fun _ => False
/-- the ends that a statement's state must reach, from as, G on -/
structure DOk (as : List Addr) (G : Hp) (P : Po) (D : Ends) : Prop where
  nx : ∀ as' G' H' σ' s', Cz X F as' G' H' σ' s' → Same G G' → P.nx s' → D.nx σ' H'
  rt : ∀ v as' G' H' σ' e' s', Cz X F as' G' H' σ' s' → Same G G' → VE X.K G' as' v e' → P.rt e' s' → D.rt v H'
  bk : ∀ as' G' H' σ' s', Cz X F as' G' H' σ' s' → Same G G' → P.bk s' → D.bk σ' H'
  ct : ∀ as' G' H' σ' s', Cz X F as' G' H' σ' s' → Same G G' → P.ct s' → D.ct σ' H'
def JS (st : Stmt) (s : S) (P : Po) : Prop := ∀ as G H σ D, Cz X F as G H σ s → DOk X F as G P D → semS X st D σ H
def JSs (st : List Stmt) (s : S) (P : Po) : Prop := ∀ as G H σ D, Cz X F as G H σ s → DOk X F as G P D → semSs X st D σ H
end
variable {X : Cx} {F : Fr} {s : S}
theorem DOk.ext {as as' : List Addr} {G G' : Hp} {P : Po} {D : Ends} (h : DOk X F as G P D) (x : Ext as as' G G') : DOk X F as' G' P D :=
  ⟨fun a b c d e f g i => h.nx a b c d e f (x.sub.trans g) i, fun v a b c d e f g i j k => h.rt v a b c d e f g (x.sub.trans i) j k, fun a b c d e f g i => h.bk a b c d e f (x.sub.trans g) i, fun a b c d e f g i => h.ct a b c d e f (x.sub.trans g) i⟩
theorem DOk.exs {as as' : List Addr} {G G' : Hp} {P : Po} {D : Ends} (h : DOk X F as G P D) (x : Same G G') : DOk X F as' G' P D :=
  ⟨fun a b c d e f g i => h.nx a b c d e f (x.trans g) i, fun v a b c d e f g i j k => h.rt v a b c d e f g (x.trans i) j k, fun a b c d e f g i => h.bk a b c d e f (x.trans g) i, fun a b c d e f g i => h.ct a b c d e f (x.trans g) i⟩
theorem JE.mono {e : Expr} {Φ Ψ : E → S → Prop} (h : JE X F e s Φ) (m : ∀ e s, Φ e s → Ψ e s) : JE X F e s Ψ := fun as G H σ Q c k => h as G H σ Q c fun v as' G' H' e' s' c' x ve q => k v as' G' H' e' s' c' x ve (m _ _ q)
theorem JSs.mono {e : List Stmt} {P P' : Po} (h : JSs X F e s P) (m1 : ∀ s, P.nx s → P'.nx s) (m2 : ∀ e s, P.rt e s → P'.rt e s) (m3 : ∀ s, P.bk s → P'.bk s) (m4 : ∀ s, P.ct s → P'.ct s) : JSs X F e s P' := fun as G H σ D c k =>
  h as G H σ D c ⟨fun a b c d e f g i => k.nx a b c d e f g (m1 _ i), fun v a b c d e f g i j q => k.rt v a b c d e f g i j (m2 _ _ q), fun a b c d e f g i => k.bk a b c d e f g (m3 _ i), fun a b c d e f g i => k.ct a b c d e f g (m4 _ i)⟩
/-! ### expressions -/
section
variable {e a b c : Expr} {es rest : List Expr} {Φ : E → S → Prop} {Ψ : Bool → S → Prop} {pos p : Pos}
/-- by a rule of the layer whose reading leaves the heap as it is -/
theorem je_of {t : TE} (h : PE X e t) (k : ∀ as G H σ (Q : VK), Cz X F as G H σ s → (∀ v as' G' H' e' s', Cz X F as' G' H' σ s' → Ext as as' G G' → VE X.K G' as' v e' → Φ e' s' → Q v H') → t σ H Q) : JE X F e s Φ :=
  fun as G H σ Q c q => PE.sem h (k as G H σ Q c q)
structure NmR (X : Cx) (i : Nat) (x : Str) : Prop where
  nm : X.N[i]? = some x
  vis : Vis X.env.scope x
  dbg : (x == ("__debug__" : Str)) = false
  cdt : (x == ("__classdict__" : Str)) = false
theorem je_name {i : Nat} {x : Str} {e' : E} (n : NmR X i x) (h : nth s.sl i = some (some e')) (q : Φ e' s) : JE X F (.Name x pos) s Φ :=
  je_of (pe_var n.nm n.vis n.dbg n.cdt) fun as G H σ Q c k => by
    rw [nth_eq] at h
    obtain ⟨v, h1, h2⟩ := c.slots i e' h
    exact ⟨v, h1, k v as G H e' s c (Ext.refl _ _) h2 q⟩
theorem je_int {i : Int} {j : Nat} (q : Φ (.d (.int i)) s) : JE X F (.Constant (.int i) j pos) s Φ := je_of pe_int fun as G H σ Q c k => k _ as G H _ s c (Ext.refl _ _) (Rep.int i) q
theorem je_bl {i : Bool} {j : Nat} (q : Φ (.d (.bl i)) s) : JE X F (.Constant (.bool i) j pos) s Φ := je_of pe_bl fun as G H σ Q c k => k _ as G H _ s c (Ext.refl _ _) (Rep.bl i) q
theorem je_non {j : Nat} (q : Φ (.d .non) s) : JE X F (.Constant .none j pos) s Φ := je_of pe_non fun as G H σ Q c k => k _ as G H _ s c (Ext.refl _ _) Rep.non q
theorem je_str {x : Str} {j : Nat} (q : Φ (.d (.str x)) s) : JE X F (.Constant (.str x) j pos) s Φ := je_of pe_str fun as G H σ Q c k => k _ as G H _ s c (Ext.refl _ _) (Rep.str x) q
/-- a module's constant -/
structure Gc (X : Cx) (x : Str) (d : D) : Prop where
  gl : Gl X x
  mg : ∃ v u, X.mg x = some u ∧ RelV v u ∧ Rep X.K (fun _ => none) v d
  dbg : (x == ("__debug__" : Str)) = false
theorem je_glob {x : Str} {d : D} (g : Gc X x d) (q : Φ (.d d) s) : JE X F (.Name x pos) s Φ := by
  obtain ⟨v, u, h1, h2, h3⟩ := g.mg
  exact je_of (pe_glob g.gl h1 h2 g.dbg) fun as G H σ Q c k => k _ as G H _ s c (Ext.refl _ _) (h3.mono (by intro _ _ z; cases z)) q
theorem je_bin {op : Operator} (h : JE X F a s fun e1 s1 => JE X F b s1 fun e2 s2 => JR X F (binaryOp op) e1 e2 s2 Φ) : JE X F (.BinOp a op b pos) s Φ :=
  je_of (pe_op (op_sem X _) (pe_sem X a) (pe_sem X b)) fun as G H σ Q c k => h as G H σ _ c fun v1 as1 G1 H1 e1 s1 c1 x1 ve1 h1 => h1 as1 G1 H1 σ _ c1 fun v2 as2 G2 H2 e2 s2 c2 x2 ve2 h2 =>
    h2 as2 G2 H2 σ _ _ Q c2 (x2.ve ve1) ve2 fun v as' G' H' e' s' c' x ve q => k v as' G' H' e' s' c' ((x1.trans x2).trans x) ve q
theorem je_cmp {op : CmpOp} (h : JE X F a s fun e1 s1 => JE X F b s1 fun e2 s2 => JR X F (compareOp op) e1 e2 s2 Φ) (hm : behindInMarks op b = false := by rfl) : JE X F (.Compare a [op] [b] pos) s Φ :=
  je_of (pe_cmpR (op_sem X _) (pe_sem X a) (pe_sem X b) hm) fun as G H σ Q c k => h as G H σ _ c fun v1 as1 G1 H1 e1 s1 c1 x1 ve1 h1 => h1 as1 G1 H1 σ _ c1 fun v2 as2 G2 H2 e2 s2 c2 x2 ve2 h2 =>
    h2 as2 G2 H2 σ _ _ Q c2 (x2.ve ve1) ve2 fun v as' G' H' e' s' c' x ve q => k v as' G' H' e' s' c' ((x1.trans x2).trans x) ve q
theorem jt_cmp {op : CmpOp} (h : JE X F a s fun e1 s1 => JE X F b s1 fun e2 s2 => JR X F (compareOp op) e1 e2 s2 fun e3 s3 => ∃ k, e3 = .d (.bl k) ∧ Ψ k s3) (hm : behindInMarks op b = false := by rfl) : JT X F (.Compare a [op] [b] pos) s Ψ :=
  fun as G H σ Q c k => PT.sem (pt_cmpR (op_sem X _) (pe_sem X a) (pe_sem X b) hm) (h as G H σ _ c fun v1 as1 G1 H1 e1 s1 c1 x1 ve1 h1 => h1 as1 G1 H1 σ _ c1 fun v2 as2 G2 H2 e2 s2 c2 x2 ve2 h2 =>
    h2 as2 G2 H2 σ _ _ _ c2 (x2.ve ve1) ve2 fun v as' G' H' e' s' c' x ve ⟨t, et, q⟩ => by
      subst et
      cases ve
      exact ⟨t, rfl, k t as' G' H' s' c' ((x1.trans x2).trans x) q⟩)
/-- a op b op' c -/
theorem je_chain {op op' : CmpOp} (h : JE X F a s fun e1 s1 => JE X F b s1 fun e2 s2 => JR X F (compareOp op) e1 e2 s2 fun e3 s3 => ∃ k, e3 = .d (.bl k) ∧ if k = true then JE X F c s3 fun e4 s4 => JR X F (compareOp op') e2 e4 s4 Φ else Φ (.d (.bl false)) s3)
    (hm : lastMarks [op, op'] [b, c] = false := by with_unfolding_all rfl) : JE X F (.Compare a [op, op'] [b, c] pos) s Φ :=
  je_of (pe_chain (op_sem X _) (op_sem X _) (pe_sem X a) (pe_sem X b) (pe_sem X c) hm) fun as G H σ Q c0 k => h as G H σ _ c0 fun v1 as1 G1 H1 e1 s1 c1 x1 ve1 h1 => h1 as1 G1 H1 σ _ c1 fun v2 as2 G2 H2 e2 s2 c2 x2 ve2 h2 =>
    h2 as2 G2 H2 σ _ _ _ c2 (x2.ve ve1) ve2 fun v as3 G3 H3 e3 s3 c3 x3 ve ⟨t, et, q⟩ => by
      subst et
      cases ve
      refine ⟨t, rfl, ?_⟩
      cases t with
      | true =>
        simp only [if_true] at q ⊢
        exact q as3 G3 H3 σ _ c3 fun v4 as4 G4 H4 e4 s4 c4 x4 ve4 h4 => h4 as4 G4 H4 σ _ _ Q c4 (x4.ve (x3.ve ve2)) ve4 fun v as' G' H' e' s' c' x ve q => k v as' G' H' e' s' c' ((((x1.trans x2).trans x3).trans x4).trans x) ve q
      | false => exact k _ as3 G3 H3 _ s3 c3 ((x1.trans x2).trans x3) (Rep.bl false) q
theorem jt_chain {op op' : CmpOp} (h : JE X F a s fun e1 s1 => JE X F b s1 fun e2 s2 => JR X F (compareOp op) e1 e2 s2 fun e3 s3 => ∃ k, e3 = .d (.bl k) ∧ if k = true then JE X F c s3 fun e4 s4 => JR X F (compareOp op') e2 e4 s4 (fun e5 s5 => ∃ k, e5 = .d (.bl k) ∧ Ψ k s5) else Ψ false s3)
    (hm : lastMarks [op, op'] [b, c] = false := by with_unfolding_all rfl) : JT X F (.Compare a [op, op'] [b, c] pos) s Ψ :=
  fun as G H σ Q c0 k => PT.sem (pt_chain (op_sem X _) (op_sem X _) (pe_sem X a) (pe_sem X b) (pe_sem X c) hm) (h as G H σ _ c0 fun v1 as1 G1 H1 e1 s1 c1 x1 ve1 h1 => h1 as1 G1 H1 σ _ c1 fun v2 as2 G2 H2 e2 s2 c2 x2 ve2 h2 =>
    h2 as2 G2 H2 σ _ _ _ c2 (x2.ve ve1) ve2 fun v as3 G3 H3 e3 s3 c3 x3 ve ⟨t, et, q⟩ => by
      subst et
      cases ve
      refine ⟨t, rfl, ?_⟩
      cases t with
      | true =>
        simp only [if_true] at q ⊢
        exact q as3 G3 H3 σ _ c3 fun v4 as4 G4 H4 e4 s4 c4 x4 ve4 h4 => h4 as4 G4 H4 σ _ _ _ c4 (x4.ve (x3.ve ve2)) ve4 fun v as' G' H' e' s' c' x ve ⟨t, et, q⟩ => by
          subst et
          cases ve
          exact ⟨t, rfl, k t as' G' H' s' c' ((((x1.trans x2).trans x3).trans x4).trans x) q⟩
      | false => exact ⟨false, rfl, k _ as3 G3 H3 s3 c3 ((x1.trans x2).trans x3) q⟩)
def JU (X : Cx) (F : Fr) (op : UnaryOp) (e : E) (s : S) (Φ : E → S → Prop) : Prop := JV X F (fun vs H Q => ∀ pins st σ v, Inv X pins σ H st → RelV (vs.headD .non) v → wpAny (model X.prog X.w) X.A (unaryOp op v) (EP X pins σ Q) X.xe st) [e] s Φ
theorem je_un {op : UnaryOp} (h : JE X F a s fun e1 s1 => JU X F op e1 s1 Φ) : JE X F (.UnaryOp op a pos) s Φ :=
  je_of (pe_un (r := fun x H Q => ∀ pins st σ v, Inv X pins σ H st → RelV x v → wpAny (model X.prog X.w) X.A (unaryOp op v) (EP X pins σ Q) X.xe st) (fun pins st σ H x v Q I rx q => q pins st σ v I rx) (pe_sem X a)) fun as G H σ Q c k =>
    h as G H σ _ c fun v1 as1 G1 H1 e1 s1 c1 x1 ve1 h1 => h1 as1 G1 H1 σ [v1] Q c1 (.cons ve1 .nil) fun v as' G' H' e' s' c' x ve q => k v as' G' H' e' s' c' (x1.trans x) ve q
/-! tests -/
theorem jt_w (h : JW X F e s Ψ) : JT X F e s Ψ := fun as G H σ Q c k => fun pins st I => h as G H σ Q c k _ pins st I
theorem jw_and1 (h : JT X F a s Ψ) : JW X F (.BoolOp .And [a] pos) s Ψ := fun as G H σ Q c k => PW.sem (pw_and1 (pt_sem X a)) (h as G H σ Q c k)
theorem jw_or1 (h : JT X F a s Ψ) : JW X F (.BoolOp .Or [a] pos) s Ψ := fun as G H σ Q c k => PW.sem (pw_or1 (pt_sem X a)) (h as G H σ Q c k)
theorem jw_and (h : JT X F a s fun k s1 => if k = true then JW X F (.BoolOp .And (b :: rest) pos) s1 Ψ else Ψ false s1) : JW X F (.BoolOp .And (a :: b :: rest) pos) s Ψ :=
  fun as G H σ Q c k => PW.sem (pw_and (pt_sem X a) (pw_sem X _)) (h as G H σ _ c fun t as1 G1 H1 s1 c1 x1 h1 => by
    cases t with
    | true =>
      simp only [if_true] at h1 ⊢
      exact h1 as1 G1 H1 σ Q c1 fun b as2 G2 H2 s2 c2 x2 q => k b as2 G2 H2 s2 c2 (x1.trans x2) q
    | false => exact k false as1 G1 H1 s1 c1 x1 h1)
theorem jw_or (h : JT X F a s fun k s1 => if k = true then Ψ true s1 else JW X F (.BoolOp .Or (b :: rest) pos) s1 Ψ) : JW X F (.BoolOp .Or (a :: b :: rest) pos) s Ψ :=
  fun as G H σ Q c k => PW.sem (pw_or (pt_sem X a) (pw_sem X _)) (h as G H σ _ c fun t as1 G1 H1 s1 c1 x1 h1 => by
    cases t with
    | true => exact k true as1 G1 H1 s1 c1 x1 h1
    | false => exact h1 as1 G1 H1 σ Q c1 fun b as2 G2 H2 s2 c2 x2 q => k b as2 G2 H2 s2 c2 (x1.trans x2) q)
theorem jt_not (h : JT X F a s fun k s1 => Ψ (!k) s1) : JT X F (.UnaryOp .Not a pos) s Ψ := fun as G H σ Q c k => PT.sem (pt_not (pt_sem X a)) (h as G H σ _ c fun t as1 G1 H1 s1 c1 x1 h1 => k _ as1 G1 H1 s1 c1 x1 h1)
/-- an expression that gives a bool, as a test -/
theorem jt_val (h : JE X F e s fun e1 s1 => ∃ k, e1 = .d (.bl k) ∧ Ψ k s1) (he : ∀ whole, isTrue e X.env whole = (do let v ← whole; standAt e.pos; holding [v] (truthy v)) := by intro _; rfl) : JT X F e s Ψ :=
  fun as G H σ Q c k => PT.sem (pt_val (pe_sem X e) he) (h as G H σ _ c fun v as1 G1 H1 e1 s1 c1 x1 ve ⟨t, et, q⟩ => by
    subst et
    cases ve
    exact ⟨t, rfl, k t as1 G1 H1 s1 c1 x1 q⟩)
/-- and, or, not as values -/
theorem je_one {op : BoolOp} (h : JE X F a s Φ) : JE X F (.BoolOp op [a] pos) s Φ := fun as G H σ Q c k => PE.sem (pe_one (pe_sem X a)) (h as G H σ Q c k)
theorem je_and (h : JE X F a s fun e1 s1 => ∃ k, e1 = .d (.bl k) ∧ if k = true then JE X F (.BoolOp .And (b :: rest) pos) s1 Φ else Φ (.d (.bl false)) s1) : JE X F (.BoolOp .And (a :: b :: rest) pos) s Φ :=
  je_of (pe_and (pe_sem X a) (pe_sem X _)) fun as G H σ Q c k => h as G H σ _ c fun v as1 G1 H1 e1 s1 c1 x1 ve ⟨t, et, h1⟩ => by
    subst et
    cases ve
    refine ⟨t, rfl, ?_⟩
    cases t with
    | true =>
      simp only [if_true] at h1 ⊢
      exact h1 as1 G1 H1 σ Q c1 fun v as2 G2 H2 e2 s2 c2 x2 ve q => k v as2 G2 H2 e2 s2 c2 (x1.trans x2) ve q
    | false => exact k _ as1 G1 H1 _ s1 c1 x1 (Rep.bl false) h1
theorem je_or (h : JE X F a s fun e1 s1 => ∃ k, e1 = .d (.bl k) ∧ if k = true then Φ (.d (.bl true)) s1 else JE X F (.BoolOp .Or (b :: rest) pos) s1 Φ) : JE X F (.BoolOp .Or (a :: b :: rest) pos) s Φ :=
  je_of (pe_or (pe_sem X a) (pe_sem X _)) fun as G H σ Q c k => h as G H σ _ c fun v as1 G1 H1 e1 s1 c1 x1 ve ⟨t, et, h1⟩ => by
    subst et
    cases ve
    refine ⟨t, rfl, ?_⟩
    cases t with
    | true => exact k _ as1 G1 H1 _ s1 c1 x1 (Rep.bl true) h1
    | false => exact h1 as1 G1 H1 σ Q c1 fun v as2 G2 H2 e2 s2 c2 x2 ve q => k v as2 G2 H2 e2 s2 c2 (x1.trans x2) ve q
theorem je_not (h : JE X F a s fun e1 s1 => ∃ k, e1 = .d (.bl k) ∧ Φ (.d (.bl (!k))) s1) : JE X F (.UnaryOp .Not a pos) s Φ :=
  je_of (pe_not (pe_sem X a)) fun as G H σ Q c k => h as G H σ _ c fun v as1 G1 H1 e1 s1 c1 x1 ve ⟨t, et, h1⟩ => by
    subst et
    cases ve
    exact ⟨t, rfl, k _ as1 G1 H1 _ s1 c1 x1 (Rep.bl _) h1⟩
theorem je_ife (h : JT X F c s fun k s1 => if k = true then JE X F a s1 Φ else JE X F b s1 Φ) : JE X F (.IfExp c a b pos) s Φ :=
  je_of (pe_ifExp (pt_sem X c) (pe_sem X a) (pe_sem X b)) fun as G H σ Q c k => h as G H σ _ c fun t as1 G1 H1 s1 c1 x1 h1 => by
    cases t with
    | true =>
      simp only [if_true] at h1 ⊢
      exact h1 as1 G1 H1 σ Q c1 fun v as2 G2 H2 e2 s2 c2 x2 ve q => k v as2 G2 H2 e2 s2 c2 (x1.trans x2) ve q
    | false => exact h1 as1 G1 H1 σ Q c1 fun v as2 G2 H2 e2 s2 c2 x2 ve q => k v as2 G2 H2 e2 s2 c2 (x1.trans x2) ve q
/-! argument lists -/
theorem ja_nil {Φ : List E → S → Prop} (q : Φ [] s) : JA X F [] s Φ := fun as G H σ Q c k => PA.sem pa_nil (k [] as G H [] s c (Ext.refl _ _) .nil q)
theorem ja_cons {Φ : List E → S → Prop} (h : JE X F e s fun e1 s1 => JA X F es s1 fun r s2 => Φ (e1 :: r) s2) (hs : starEach (e :: es) X.env = (false, eval e X.env) :: starEach es X.env := by rfl) : JA X F (e :: es) s Φ :=
  fun as G H σ Q c k => PA.sem (pa_cons (pe_sem X e) (pa_sem X es) hs) (h as G H σ _ c fun v as1 G1 H1 e1 s1 c1 x1 ve h1 => h1 as1 G1 H1 σ _ c1 fun vs as2 G2 H2 r s2 c2 x2 ves q => k _ as2 G2 H2 _ s2 c2 (x1.trans x2) (.cons (x2.ve ve) ves) q)
end
end DL
namespace DL
open PySem PySem.Spec PyProof.Rows L2
/-! ### nodes -/
def S.node (s : S) : E → Option (Kd × List E)
  | .d (.nd k ds) => some (k, ds.map .d)
  | .d .non => none
  | .d (.bl _) => none
  | .d (.int _) => none
  | .d (.str _) => none
  | .r i => match nth s.ce i with
    | some (.nd k es) => some (k, es)
    | _ => none
theorem CellAt.node {K : PySem.W.Frag} {H : Hp} {a : Addr} {vs : List V} : ∀ {k : Kd}, CellAt H a vs k → NodeAt K H a vs k
  | .tup, x => x.elim
  | .lst, x => SqL.of x
  | .dct ks, x => x
  | .ins C fs, x => x
variable {X : Cx} {F : Fr} {s : S}
theorem Cz.node {as : List Addr} {G H : Hp} {σ : L2.St} (c : Cz X F as G H σ s) {v : V} {e : E} {kd : Kd} {es : List E} (ve : VE X.K G as v e) (h : s.node e = some (kd, es)) :
    ∃ a vs, v = .ref a ∧ NodeAt X.K H a vs kd ∧ VEs X.K G as vs es := by
  cases e with
  | d x =>
    cases x with
    | nd k ds =>
      cases h
      cases ve with
      | nd n r => exact ⟨_, _, rfl, n.mono c.sub, VEs.ofReps r⟩
    | _ => cases h
  | r i =>
    obtain ⟨a, h1, h2⟩ := ve
    have h : (match nth s.ce i with
      | some (.nd k es) => some (k, es)
      | _ => none) = some (kd, es) := h
    rw [nth_eq] at h
    cases hc : s.ce[i]? with
    | none => rw [hc] at h; cases h
    | some cl =>
      rw [hc] at h
      cases cl with
      | gone => cases h
      | nd k es' =>
        cases h
        obtain ⟨a', vs, g1, g2, g3⟩ := c.cells i _ _ hc
        rw [h1] at g1
        cases g1
        exact ⟨_, vs, h2, g2.node, g3⟩
/-- a node as data -/
def dsOf : List E → Option (List D)
  | [] => some []
  | .d x :: r => (dsOf r).map (x :: ·)
  | .r _ :: _ => none
theorem dsOf_eq : ∀ {es : List E} {ds : List D}, dsOf es = some ds → es = ds.map .d
  | [], ds, h => by cases h; rfl
  | .d x :: r, ds, h => by
    unfold dsOf at h
    cases q : dsOf r with
    | none => rw [q] at h; cases h
    | some y =>
      rw [q] at h
      cases h
      rw [dsOf_eq q]
      rfl
  | .r _ :: _, ds, h => by cases h
theorem dsOf_map : ∀ (ds : List D), dsOf (ds.map .d) = some ds
  | [] => rfl
  | d :: ds => by
    show (dsOf (ds.map .d)).map (d :: ·) = _
    rw [dsOf_map ds]
    rfl
theorem VEs.atI {K : PySem.W.Frag} {G : Hp} {as : List Addr} {vs : List V} {es : List E} {i : Int} {e : E} (r : VEs K G as vs es) (h : L2.atI es i = some e) : ∃ v, L2.atI vs i = some v ∧ VE K G as v e := by
  unfold L2.atI at h ⊢
  rw [Paired.length r]
  cases q : ixN es.length i with
  | none => rw [q] at h; cases h
  | some j =>
    rw [q] at h
    exact r.get' h
/-! ### subscripts -/
def semIx (X : Cx) : R2 := fun x y H Q => ∀ value slice pins st σ v u, Inv X pins σ H st → RelV x v → RelV y u → subscripted slice false v u = operate [v, u] (getItem v u) → wpAny (model X.prog X.w) X.A (subscriptTail value slice v u) (EP X pins σ Q) X.xe st
theorem ix_sem (X : Cx) : IxR X (semIx X) := fun value slice pins st σ H x y v u Q I rx ry h hs => h value slice pins st σ v u I rx ry hs
def JX (X : Cx) (F : Fr) (e1 e2 : E) (s : S) (Φ : E → S → Prop) : Prop := ∀ as G H σ x y (Q : VK), Cz X F as G H σ s → VE X.K G as x e1 → VE X.K G as y e2 →
  (∀ v as' G' H' e' s', Cz X F as' G' H' σ s' → Ext as as' G G' → VE X.K G' as' v e' → Φ e' s' → Q v H') → semIx X x y H Q
section
variable {e a b c : Expr} {es rest : List Expr} {Φ : E → S → Prop} {Ψ : Bool → S → Prop} {pos p : Pos}
theorem je_sub (h : JE X F a s fun e1 s1 => JE X F b s1 fun e2 s2 => JX X F e1 e2 s2 Φ) (hs : PlainIx b := by intro _ _; rfl) : JE X F (.Subscript a b pos) s Φ :=
  je_of (pe_ix (ix_sem X) (pe_sem X a) (pe_sem X b) hs) fun as G H σ Q c k => h as G H σ _ c fun v1 as1 G1 H1 e1 s1 c1 x1 ve1 h1 => h1 as1 G1 H1 σ _ c1 fun v2 as2 G2 H2 e2 s2 c2 x2 ve2 h2 =>
    h2 as2 G2 H2 σ _ _ Q c2 (x2.ve ve1) ve2 fun v as' G' H' e' s' c' x ve q => k v as' G' H' e' s' c' ((x1.trans x2).trans x) ve q
theorem jx_of {r : R2} {e1 e2 : E} (h : IxR X r) (k : ∀ as G H σ x y (Q : VK), Cz X F as G H σ s → VE X.K G as x e1 → VE X.K G as y e2 →
    (∀ v as' G' H' e' s', Cz X F as' G' H' σ s' → Ext as as' G G' → VE X.K G' as' v e' → Φ e' s' → Q v H') → r x y H Q) : JX X F e1 e2 s Φ :=
  fun as G H σ x y Q c v1 v2 q => fun value slice pins st σ' v u I rx ry hs => h value slice pins st σ' H x y v u Q I rx ry (k as G H σ x y Q c v1 v2 q) hs
theorem jx_seq {e1 e' : E} {i : Int} {kd : Kd} {es : List E} (h : s.node e1 = some (kd, es)) (hk : kd = .lst ∨ kd = .tup) (ha : L2.atI es i = some e') (q : Φ e' s) : JX X F e1 (.d (.int i)) s Φ :=
  jx_of (ix_list.or ix_tup) fun as G H σ x y Q c v1 v2 k => by
    obtain ⟨a, vs, rfl, n, ves⟩ := c.node v1 h
    cases v2
    obtain ⟨v, hv, ve⟩ := ves.atI ha
    have fin := k v as G H e' s c (Ext.refl _ _) ve q
    rcases hk with rfl | rfl
    · exact .inl ⟨a, vs, i, v, rfl, rfl, n, hv, fin⟩
    · exact .inr ⟨a, vs, i, v, rfl, rfl, n, hv, fin⟩
theorem jx_str {z : Str} {i : Int} {cp : Nat} (hz : z.length ≤ sizeLine) (ha : L2.atI z.cps.toList i = some cp) (q : Φ (.d (.str ⟨#[cp]⟩)) s) : JX X F (.d (.str z)) (.d (.int i)) s Φ :=
  jx_of ix_str fun as G H σ x y Q c v1 v2 k => by
    cases v1
    cases v2
    exact ⟨z, i, cp, rfl, rfl, hz, ha, k _ as G H _ s c (Ext.refl _ _) (Rep.str _) q⟩
/-- a key -/
def keyE : E → Option Key
  | .d (.int i) => some (.inl i)
  | .d (.str x) => some (.inr x)
  | _ => none
theorem keyE_v {K : PySem.W.Frag} {G : Hp} {as : List Addr} {e : E} {k : Key} {v : V} (h : keyE e = some k) (ve : VE K G as v e) : v = kV k := by
  cases e with
  | r _ => cases h
  | d x => cases x <;> cases h <;> cases ve <;> rfl
/-- what stands at a key -/
def lk {α : Type} (kvs : List (Key × α)) (k : Key) : Option α := (kvs.find? fun kv => decide (kv.1 = k)).map (·.2)
theorem lk_val {K : PySem.W.Frag} {G : Hp} {as : List Addr} {k : Key} : ∀ {ks : List Key} {vs : List V} {es : List E}, VEs K G as vs es →
    (∀ e, lk (ks.zip es) k = some e → ∃ v, valV (ks.zip vs) k = some v ∧ VE K G as v e) ∧ (lk (ks.zip es) k = none → valV (ks.zip vs) k = none)
  | [], _, _, _ => ⟨fun e h => by simp [lk] at h, fun _ => rfl⟩
  | _ :: _, _, _, .nil => ⟨fun e h => by simp [lk] at h, fun _ => rfl⟩
  | k' :: ks, v :: vs, e :: es, .cons h t => by
    obtain ⟨h1, h2⟩ := lk_val (k := k) (ks := ks) t
    by_cases hk : k' = k
    · subst hk
      refine ⟨fun e' q => ?_, fun q => ?_⟩
      · simp [lk, List.zip_cons_cons, List.find?_cons] at q
        subst q
        exact ⟨v, by simp [valV, List.zip_cons_cons, List.find?_cons], h⟩
      · simp [lk, List.zip_cons_cons, List.find?_cons] at q
    · have e1 : lk ((k' :: ks).zip (e :: es)) k = lk (ks.zip es) k := by simp [lk, List.zip_cons_cons, List.find?_cons, hk]
      have e2 : valV ((k' :: ks).zip (v :: vs)) k = valV (ks.zip vs) k := by simp [valV, List.zip_cons_cons, List.find?_cons, hk]
      rw [e1, e2]
      exact ⟨h1, h2⟩
theorem ix_dict (hu : X.A.units + 1 < cLine) : IxR X (fun x y H Q => ∃ a v, x = .ref a ∧ DGet H a y (some v) ∧ Q v H) := by
  intro value slice pins st σ H x y v u Q I rx ry h hs
  obtain ⟨a, w, rfl, g, q⟩ := h
  obtain rfl : v = Value.ref a := rx
  exact tail_any (dict_typeIs I g) PySem.F.slot_dict_getitem.lookup (d_getItem hu I g ry fun w' s3 I3 rw' => ⟨w, H, I3, rw', q⟩) hs
theorem jx_dct {e1 e2 e' : E} {k : Key} {ks : List Key} {es : List E} (hu : X.A.units + 1 < cLine) (h : s.node e1 = some (.dct ks, es)) (hk : keyE e2 = some k) (ha : lk (ks.zip es) k = some e') (q : Φ e' s) : JX X F e1 e2 s Φ :=
  jx_of (ix_dict hu) fun as G H σ x y Q c v1 v2 kk => by
    obtain ⟨a, vs, rfl, ⟨n1, n2, od, n3⟩, ves⟩ := c.node v1 h
    obtain rfl := keyE_v hk v2
    obtain ⟨v, hv, ve⟩ := (lk_val (ks := ks) ves).1 e' ha
    exact ⟨a, v, rfl, .inl ⟨_, k, .inr ⟨od, n3⟩, rfl, hv.symm⟩, kk v as G H e' s c (Ext.refl _ _) ve q⟩
end
/-! ### operations -/
section
variable {Φ : E → S → Prop}
theorem jr_of {f : Value → Value → Sem Value} {r : R2} {e1 e2 : E} (h : OpR X f r) (k : ∀ as G H σ x y (Q : VK), Cz X F as G H σ s → VE X.K G as x e1 → VE X.K G as y e2 →
    (∀ v as' G' H' e' s', Cz X F as' G' H' σ s' → Ext as as' G G' → VE X.K G' as' v e' → Φ e' s' → Q v H') → r x y H Q) : JR X F f e1 e2 s Φ :=
  fun as G H σ x y Q c v1 v2 q => fun pins st σ' v u I rx ry => h pins st σ' H x y v u Q I rx ry (k as G H σ x y Q c v1 v2 q)
/-- an operation on scalars that gives a scalar -/
theorem jr_ii {f : Value → Value → Sem Value} {C : Int → Int → Prop} {g : Int → Int → V} {i j : Int} {d : D} (h : OpR X f (rI C g)) (hc : C i j) (hd : Rep X.K (fun _ => none) (g i j) d) (q : Φ (.d d) s) : JR X F f (.d (.int i)) (.d (.int j)) s Φ :=
  jr_of h fun as G H σ x y Q c v1 v2 k => by
    cases v1
    cases v2
    exact ⟨i, j, rfl, rfl, hc, k _ as G H _ s c (Ext.refl _ _) (hd.mono (by intro _ _ z; cases z)) q⟩
theorem jr_i0 {f : Value → Value → Sem Value} {g : Int → Int → V} {i j : Int} {d : D} (h : OpR X f (rI0 g)) (hd : Rep X.K (fun _ => none) (g i j) d) (q : Φ (.d d) s) : JR X F f (.d (.int i)) (.d (.int j)) s Φ :=
  jr_of h fun as G H σ x y Q c v1 v2 k => by
    cases v1
    cases v2
    exact ⟨i, j, rfl, rfl, k _ as G H _ s c (Ext.refl _ _) (hd.mono (by intro _ _ z; cases z)) q⟩
variable {i j : Int}
theorem jr_add (q : Φ (.d (.int (i + j))) s) : JR X F (binaryOp .Add) (.d (.int i)) (.d (.int j)) s Φ := jr_i0 op_add (.int _) q
theorem jr_sub (q : Φ (.d (.int (i - j))) s) : JR X F (binaryOp .Sub) (.d (.int i)) (.d (.int j)) s Φ := jr_i0 op_sub (.int _) q
theorem jr_mul (hc : CMul i j ∨ CMulW i j) (q : Φ (.d (.int (i * j))) s) : JR X F (binaryOp .Mult) (.d (.int i)) (.d (.int j)) s Φ := by
  rcases hc with hc | hc
  · exact jr_ii op_mul hc (.int _) q
  · exact jr_ii op_mulW hc (.int _) q
theorem jr_fdiv (hc : CDiv i j ∨ CDivW i j) (q : Φ (.d (.int (i / j))) s) : JR X F (binaryOp .FloorDiv) (.d (.int i)) (.d (.int j)) s Φ := by
  rcases hc with hc | hc
  · exact jr_ii op_fdiv hc (.int _) q
  · exact jr_ii op_fdivW hc (.int _) q
theorem jr_mod (hc : 0 < j) (q : Φ (.d (.int (i % j))) s) : JR X F (binaryOp .Mod) (.d (.int i)) (.d (.int j)) s Φ := jr_ii op_mod hc (.int _) q
theorem jr_pow (hc : CPow i j) (q : Φ (.d (.int (i ^ j.toNat))) s) : JR X F (binaryOp .Pow) (.d (.int i)) (.d (.int j)) s Φ := jr_ii op_pow hc (.int _) q
theorem jr_shr (hc : 0 ≤ j) (q : Φ (.d (.int (i / 2 ^ j.toNat))) s) : JR X F (binaryOp .RShift) (.d (.int i)) (.d (.int j)) s Φ := jr_ii op_shr hc (.int _) q
theorem jr_shl (hc : CPow i j) (q : Φ (.d (.int (i * 2 ^ j.toNat))) s) : JR X F (binaryOp .LShift) (.d (.int i)) (.d (.int j)) s Φ := jr_ii op_shl hc (.int _) q
theorem jr_band (q : Φ (.d (.int (Builtin.bitAnd i j))) s) : JR X F (binaryOp .BitAnd) (.d (.int i)) (.d (.int j)) s Φ := jr_i0 op_and (.int _) q
theorem jr_bxor (q : Φ (.d (.int (Builtin.bitXor i j))) s) : JR X F (binaryOp .BitXor) (.d (.int i)) (.d (.int j)) s Φ := jr_i0 op_xor (.int _) q
theorem jr_lt (q : Φ (.d (.bl (decide (i < j)))) s) : JR X F (compareOp .Lt) (.d (.int i)) (.d (.int j)) s Φ := jr_i0 op_lt (.bl _) q
theorem jr_le (q : Φ (.d (.bl (decide (i ≤ j)))) s) : JR X F (compareOp .LtE) (.d (.int i)) (.d (.int j)) s Φ := jr_i0 op_le (.bl _) q
theorem jr_gt (q : Φ (.d (.bl (decide (j < i)))) s) : JR X F (compareOp .Gt) (.d (.int i)) (.d (.int j)) s Φ := jr_i0 op_gt (.bl _) q
theorem jr_ge (q : Φ (.d (.bl (decide (j ≤ i)))) s) : JR X F (compareOp .GtE) (.d (.int i)) (.d (.int j)) s Φ := jr_i0 op_ge (.bl _) q
theorem jr_adds {x y : Str} (hz : x.length + y.length ≤ sizeLine) (q : Φ (.d (.str (x ++ y))) s) : JR X F (binaryOp .Add) (.d (.str x)) (.d (.str y)) s Φ :=
  jr_of op_add_str fun as G H σ _ _ Q c v1 v2 k => by
    cases v1
    cases v2
    exact ⟨x, y, rfl, rfl, hz, k _ as G H _ s c (Ext.refl _ _) (Rep.str _) q⟩
/-- == and != of scalars -/
def vD : D → V
  | .non => .non | .bl b => .bl b | .int i => .int i | .str x => .str x | .nd _ _ => .ref 0
theorem vD_of {K : PySem.W.Frag} {G : Hp} {v : V} {d : D} (h : Rep K G v d) (hn : ∀ k ds, d ≠ .nd k ds) : v = vD d := by
  cases h with
  | nd _ _ => exact absurd rfl (hn _ _)
  | _ => rfl
theorem scal_nd {d e : D} (h : scal (vD d) (vD e) = true) : (∀ k ds, d ≠ .nd k ds) ∧ ∀ k ds, e ≠ .nd k ds := by
  refine ⟨fun k ds q => ?_, fun k ds q => ?_⟩
  · subst q; cases e <;> cases h
  · subst q; cases d <;> cases h
theorem jr_eq {d e : D} (hs : scal (vD d) (vD e) = true) (q : Φ (.d (.bl (decide (vD d = vD e)))) s) : JR X F (compareOp .Eq) (.d d) (.d e) s Φ :=
  jr_of op_eq fun as G H σ x y Q c v1 v2 k => by
    obtain ⟨n1, n2⟩ := scal_nd hs
    obtain rfl := vD_of v1 n1
    obtain rfl := vD_of v2 n2
    exact ⟨hs, k _ as G H _ s c (Ext.refl _ _) (Rep.bl _) q⟩
theorem jr_ne {d e : D} (hs : scal (vD d) (vD e) = true) (q : Φ (.d (.bl (!decide (vD d = vD e)))) s) : JR X F (compareOp .NotEq) (.d d) (.d e) s Φ :=
  jr_of op_ne fun as G H σ x y Q c v1 v2 k => by
    obtain ⟨n1, n2⟩ := scal_nd hs
    obtain rfl := vD_of v1 n1
    obtain rfl := vD_of v2 n2
    exact ⟨hs, k _ as G H _ s c (Ext.refl _ _) (Rep.bl _) q⟩
theorem dv_int {i j : Int} : decide (vD (.int i) = vD (.int j)) = decide (i = j) := by simp [vD]
theorem dv_str {i j : Str} : decide (vD (.str i) = vD (.str j)) = decide (i = j) := by simp [vD]
theorem dv_bl {i j : Bool} : decide (vD (.bl i) = vD (.bl j)) = decide (i = j) := by simp [vD]
theorem jr_eqi (q : Φ (.d (.bl (decide (i = j)))) s) : JR X F (compareOp .Eq) (.d (.int i)) (.d (.int j)) s Φ :=
  jr_eq rfl (by rw [dv_int]; exact q)
theorem jr_nei (q : Φ (.d (.bl (!decide (i = j)))) s) : JR X F (compareOp .NotEq) (.d (.int i)) (.d (.int j)) s Φ :=
  jr_ne rfl (by rw [dv_int]; exact q)
theorem jr_eqs {x y : Str} (q : Φ (.d (.bl (decide (x = y)))) s) : JR X F (compareOp .Eq) (.d (.str x)) (.d (.str y)) s Φ :=
  jr_eq rfl (by rw [dv_str]; exact q)
theorem jr_nes {x y : Str} (q : Φ (.d (.bl (!decide (x = y)))) s) : JR X F (compareOp .NotEq) (.d (.str x)) (.d (.str y)) s Φ :=
  jr_ne rfl (by rw [dv_str]; exact q)
theorem jr_eqb {x y : Bool} (q : Φ (.d (.bl (decide (x = y)))) s) : JR X F (compareOp .Eq) (.d (.bl x)) (.d (.bl y)) s Φ :=
  jr_eq rfl (by rw [dv_bl]; exact q)
theorem jr_neb {x y : Bool} (q : Φ (.d (.bl (!decide (x = y)))) s) : JR X F (compareOp .NotEq) (.d (.bl x)) (.d (.bl y)) s Φ :=
  jr_ne rfl (by rw [dv_bl]; exact q)
/-- is None -/
def isNon : E → Bool
  | .d .non => true
  | _ => false
theorem isNon_v {K : PySem.W.Frag} {G : Hp} {as : List Addr} {v : V} {e : E} (h : VE K G as v e) : decide (v = .non) = isNon e := by
  cases e with
  | r _ => obtain ⟨a, _, rfl⟩ := h; rfl
  | d x => cases h <;> rfl
theorem jr_isN {e : E} (q : Φ (.d (.bl (isNon e))) s) : JR X F (compareOp .Is) e (.d .non) s Φ :=
  jr_of op_isN fun as G H σ x y Q c v1 v2 k => by
    cases v2
    exact ⟨rfl, by rw [isNon_v v1]; exact k _ as G H _ s c (Ext.refl _ _) (Rep.bl _) q⟩
theorem jr_notN {e : E} (q : Φ (.d (.bl (!isNon e))) s) : JR X F (compareOp .IsNot) e (.d .non) s Φ :=
  jr_of op_notN fun as G H σ x y Q c v1 v2 k => by
    cases v2
    exact ⟨rfl, by rw [isNon_v v1]; exact k _ as G H _ s c (Ext.refl _ _) (Rep.bl _) q⟩
/-- is True, is False: a bool is itself, anything else is not -/
def isBl (b : Bool) : E → Bool
  | .d (.bl c) => decide (c = b)
  | _ => false
theorem op_isBool : OpR X (compareOp .Is) (fun x y H Q => ∃ b : Bool, y = .bl b ∧ Q (.bl (decide (x = .bl b))) H) := by
  intro pins st σ H x y v u Q I rx ry h
  obtain ⟨b, rfl, q⟩ := h
  cases (show u = Value.bool b from ry)
  have oth : ∀ {v : Value}, RelV x v → x ≠ .bl b → wpAny (model X.prog X.w) X.A (compareOp .Is v (.bool b)) (EP X pins σ Q) X.xe st := fun {v} r ne => by
    have fin : EP X pins σ Q (.bool false) st := ⟨.bl false, H, I, rfl, by rw [decide_eq_false ne] at q; exact q⟩
    cases x with
    | non => cases r; exact wpAny_is_other rfl (fun z => by cases z) fin
    | bl c => cases r; exact wpAny_is_other rfl (fun z => ne (by rw [Value.bool.inj z])) fin
    | int i => obtain ⟨t, rfl⟩ := r; exact wpAny_is_other rfl (fun z => by cases z) fin
    | str i => obtain ⟨t, rfl⟩ := r; exact wpAny_is_other rfl (fun z => by cases z) fin
    | byt i => obtain ⟨t, rfl⟩ := r; exact wpAny_is_other rfl (fun z => by cases z) fin
    | flt i => obtain ⟨t, rfl⟩ := r; exact wpAny_is_other rfl (fun z => by cases z) fin
    | ref a => cases r; exact wpAny_is_other rfl (fun z => by cases z) fin
    | ty n => cases r; exact wpAny_is_other rfl (fun z => by cases z) fin
  by_cases e : x = .bl b
  · subst e
    cases (show v = Value.bool b from rx)
    exact wpAny_is_self rfl ⟨.bl true, H, I, rfl, by simpa using q⟩
  · exact oth rx e
end
end DL
namespace DL
open PySem PySem.Spec PyProof.Rows L2
variable {X : Cx} {F : Fr} {s : S}
/-! ### states: more frozen, more owned, frozen now -/
theorem same_upd {G H : Hp} {p : Addr} {o : HO} (e : Same G H) : Same (upd G p o) (upd H p o) := fun b u h => by
  by_cases hb : b = p
  · subst hb; rw [upd_same] at h ⊢; exact h
  · rw [upd_ne hb] at h ⊢; exact e b u h
theorem same_new {G : Hp} {p : Addr} {o : HO} (h : G p = none) : Same G (upd G p o) := fun b u q => by
  rw [upd_ne (ne_of_none q h)]; exact q
section
variable {as : List Addr} {G H : Hp} {σ : L2.St}
theorem Cz.gnone (c : Cz X F as G H σ s) {p : Addr} (h : H p = none) : G p = none := by
  cases q : G p with
  | none => rfl
  | some o => have := c.sub p o q; rw [h] at this; cases this
theorem Cz.notin (c : Cz X F as G H σ s) {p : Addr} (h : H p = none) : p ∉ as := fun z => c.there p z h
theorem Cz.h0none (c : Cz X F as G H σ s) {p : Addr} (h : H p = none) : F.H0 p = none := by
  cases q : F.H0 p with
  | none => rfl
  | some o =>
    by_cases hA : p ∈ F.A0
    · exact absurd (c.pre.subset hA) (c.notin h)
    · have := c.frame p o q hA; rw [h] at this; cases this
/-- a new frozen object -/
theorem Cz.addG (c : Cz X F as G H σ s) {p : Addr} {o : HO} (h : H p = none) : Cz X F as (upd G p o) (upd H p o) σ s := by
  have gn := c.gnone h
  have sg : Same G (upd G p o) := same_new gn
  have ni := c.notin h
  refine ⟨same_upd c.sub, c.base.trans sg, fun b h1 h2 => ?_, fun b u h1 h2 => ?_, c.len, c.pre, c.nd, fun k a kd es h1 h2 => ?_, c.fresh, fun a ha => ?_, fun k kd es hk => ?_, fun i e he => ?_, c.slen, c.har⟩
  · have hb : b ≠ p := fun z => by rw [z] at h2; exact h2 (c.h0none h)
    rw [upd_ne hb]; exact c.new b h1 h2
  · have q := c.frame b u h1 h2
    rw [upd_ne (ne_of_none q h)]; exact q
  · have ha : a ≠ p := fun z => ni (by rw [← z]; exact List.mem_of_getElem? h1)
    rw [upd_ne ha]; exact c.own k a kd es h1 h2
  · rw [upd_ne (fun z => ni (by rw [← z]; exact ha))]; exact c.there a ha
  · obtain ⟨a, vs, h1, h2, h3⟩ := c.cells k kd es hk
    exact ⟨a, vs, h1, h2.keep fun u q => by rw [upd_ne (ne_of_none q h)]; exact q, h3.mono (List.prefix_refl _) sg⟩
  · obtain ⟨v, h1, h2⟩ := c.slots i e he
    exact ⟨v, h1, h2.mono (List.prefix_refl _) sg⟩
def S.push (s : S) (kd : Kd) (es : List E) : S := ⟨s.sl, s.ce ++ [.nd kd es], s.ar⟩
theorem pre_snoc {as : List Addr} {p : Addr} : as <+: as ++ [p] := ⟨[p], rfl⟩
/-- a new owned object -/
theorem Cz.addO (c : Cz X F as G H σ s) {p : Addr} {o : HO} {kd : Kd} {vs : List V} {es : List E} (h : H p = none) (hc : CellAt (upd H p o) p vs kd) (hv : VEs X.K G as vs es) : Cz X F (as ++ [p]) G (upd H p o) σ (s.push kd es) := by
  have gn := c.gnone h
  have ni := c.notin h
  have pr : as <+: as ++ [p] := pre_snoc
  have at_ : ∀ {k : Nat} {a : Addr}, (as ++ [p])[k]? = some a → (k < as.length ∧ as[k]? = some a) ∨ (k = as.length ∧ a = p) := fun {k a} q => by
    by_cases hk : k < as.length
    · rw [List.getElem?_append_left hk] at q; exact .inl ⟨hk, q⟩
    · rw [List.getElem?_append_right (by omega)] at q
      have hk0 : k - as.length = 0 := by
        have := (List.getElem?_eq_some_iff.mp q).1
        simp at this
        exact this
      rw [hk0] at q
      exact .inr ⟨by omega, (Option.some.inj q).symm⟩
  have cet : ∀ {k : Nat} {cl : Cell}, (s.push kd es).ce[k]? = some cl → (k < as.length ∧ s.ce[k]? = some cl) ∨ (k = as.length ∧ cl = .nd kd es) := fun {k cl} q => by
    have q : (s.ce ++ [.nd kd es])[k]? = some cl := q
    by_cases hk : k < as.length
    · rw [List.getElem?_append_left (by rw [← c.len]; exact hk)] at q; exact .inl ⟨hk, q⟩
    · rw [List.getElem?_append_right (by rw [← c.len]; omega)] at q
      have hk0 : k - s.ce.length = 0 := by
        have := (List.getElem?_eq_some_iff.mp q).1
        simp at this
        exact this
      rw [hk0] at q
      exact .inr ⟨by rw [c.len]; have := c.len; omega, (Option.some.inj q).symm⟩
  refine ⟨fun b u q => ?_, c.base, c.new, fun b u h1 h2 => ?_, ?_, c.pre.trans pr, ?_, fun k a kd' es' h1 h2 => ?_, fun a ha => ?_, fun a ha => ?_, fun k kd' es' hk => ?_, fun i e he => ?_, c.slen, c.har⟩
  · rw [upd_ne (ne_of_none q gn)]; exact c.sub b u q
  · have q := c.frame b u h1 h2
    rw [upd_ne (ne_of_none q h)]; exact q
  · show (as ++ [p]).length = (s.ce ++ [Cell.nd kd es]).length
    rw [List.length_append, List.length_append, c.len]; rfl
  · rw [List.nodup_append]
    exact ⟨c.nd, by simp, fun a ha b hb => by
      have : b = p := by simpa using hb
      subst this
      exact fun z => ni (z ▸ ha)⟩
  · rcases at_ h1 with ⟨hk, q⟩ | ⟨hk, rfl⟩
    · rcases cet h2 with ⟨_, q2⟩ | ⟨hk2, _⟩
      · exact c.own k a _ _ q q2
      · omega
    · exact gn
  · rcases List.mem_append.mp ha with ha | ha
    · exact c.fresh a ha
    · have : a = p := by simpa using ha
      subst this
      exact .inr (c.h0none h)
  · rcases List.mem_append.mp ha with ha | ha
    · rw [upd_ne (fun z => ni (by rw [← z]; exact ha))]; exact c.there a ha
    · have : a = p := by simpa using ha
      subst this
      rw [upd_same]
      exact fun z => by cases z
  · rcases cet hk with ⟨hlt, q⟩ | ⟨hk2, q⟩
    · obtain ⟨a, ws, h1, h2, h3⟩ := c.cells k kd' es' q
      exact ⟨a, ws, pre_get pr h1, h2.keep fun u q => by rw [upd_ne (ne_of_none q h)]; exact q, h3.mono pr (Same.refl _)⟩
    · cases q
      subst hk2
      exact ⟨p, vs, by rw [List.getElem?_append_right (Nat.le_refl _)]; simp, hc, hv.mono pr (Same.refl _)⟩
  · obtain ⟨v, h1, h2⟩ := c.slots i e he
    exact ⟨v, h1, h2.mono pr (Same.refl _)⟩
/-! freezing the cell k -/
def E.fz (k : Nat) (x : D) : E → E
  | .d y => .d y
  | .r j => if j == k then .d x else .r j
def Cell.fz (k : Nat) (x : D) : Cell → Cell
  | .gone => .gone
  | .nd kd es => .nd kd (es.map (E.fz k x))
def S.fz (s : S) (k : Nat) (x : D) : S := ⟨s.sl.map (Option.map (E.fz k x)), (setN s.ce k .gone).map (Cell.fz k x), s.ar⟩
theorem Cz.fz (c : Cz X F as G H σ s) {k : Nat} {kd : Kd} {ds : List D} (hk : nth s.ce k = some (.nd kd (ds.map .d))) (hkd : ∀ C fs, kd ≠ .ins C fs) (ha : s.ar ≤ k) :
    ∃ a G', as[k]? = some a ∧ Ext as as G G' ∧ Cz X F as G' H σ (s.fz k (.nd kd ds)) ∧ Rep X.K G' (.ref a) (.nd kd ds) := by
  rw [nth_eq] at hk
  obtain ⟨a, vs, h1, h2, h3⟩ := c.cells k _ _ hk
  obtain ⟨o, ho⟩ := h2.some
  have gn : G a = none := c.own k a _ _ h1 hk
  have sg : Same G (upd G a o) := same_new gn
  have inj : ∀ {j : Nat} {b : Addr}, as[j]? = some b → b = a → j = k := fun {j b} q e => by
    subst e
    obtain ⟨l1, e1⟩ := List.getElem?_eq_some_iff.mp q
    obtain ⟨l2, e2⟩ := List.getElem?_eq_some_iff.mp h1
    exact (List.getElem_inj c.nd).mp (e1.trans e2.symm)
  have nA : a ∉ F.A0 := fun z => by
    obtain ⟨j, hj⟩ := List.getElem?_of_mem z
    have q := pre_get c.pre hj
    have := inj q rfl
    have l := (List.getElem?_eq_some_iff.mp hj).1
    rw [c.har] at l
    omega
  have h0 : F.H0 a = none := (c.fresh a (List.mem_of_getElem? h1)).resolve_left nA
  have rep : Rep X.K (upd G a o) (.ref a) (.nd kd ds) := by
    refine .nd ?_ (h3.reps.mono sg)
    have : CellAt (upd G a o) a vs kd := h2.keep fun u q => by rw [upd_same, ← ho, q]
    exact this.node
  have vz : ∀ {v : V} {e : E}, VE X.K G as v e → VE X.K (upd G a o) as v (e.fz k (.nd kd ds)) := fun {v e} q => by
    cases e with
    | d y => exact Rep.mono sg q
    | r j =>
      obtain ⟨b, q1, q2⟩ := q
      show VE X.K (upd G a o) as v (if (j == k) = true then .d (.nd kd ds) else .r j)
      by_cases hj : j = k
      · subst hj
        rw [if_pos (by simp)]
        rw [h1] at q1
        cases q1
        rw [q2]
        exact rep
      · rw [if_neg (by simpa using hj)]
        exact ⟨b, q1, q2⟩
  have vzs : ∀ {vs : List V} {es : List E}, VEs X.K G as vs es → VEs X.K (upd G a o) as vs (es.map (E.fz k (.nd kd ds))) := by
    intro vs es h
    induction h with
    | nil => exact .nil
    | cons h _ ih => exact .cons (vz h) ih
  have cel : ∀ {j : Nat} {kd' : Kd} {es' : List E}, (s.fz k (.nd kd ds)).ce[j]? = some (.nd kd' es') → j ≠ k ∧ ∃ es, s.ce[j]? = some (.nd kd' es) ∧ es' = es.map (E.fz k (.nd kd ds)) := fun {j kd' es'} q => by
    have q : ((setN s.ce k .gone).map (Cell.fz k (.nd kd ds)))[j]? = some (.nd kd' es') := q
    rw [setN_eq, List.getElem?_map] at q
    by_cases hj : j = k
    · subst hj
      have l := (List.getElem?_eq_some_iff.mp hk).1
      rw [List.getElem?_set_self l] at q
      cases q
    · rw [List.getElem?_set_ne (fun z => hj z.symm)] at q
      cases e : s.ce[j]? with
      | none => rw [e] at q; cases q
      | some cl =>
        rw [e] at q
        cases cl with
        | gone => cases q
        | nd k2 es2 =>
          cases q
          exact ⟨hj, es2, rfl, rfl⟩
  refine ⟨a, upd G a o, h1, ⟨List.prefix_refl _, sg⟩, ⟨fun b u q => ?_, c.base.trans sg, fun b q1 q2 => ?_, c.frame, ?_, c.pre, c.nd, fun j b kd' es' q1 q2 => ?_, c.fresh, c.there, fun j kd' es' q => ?_, fun i e he => ?_, ?_, c.har⟩, rep⟩
  · by_cases hb : b = a
    · subst hb
      rw [upd_same] at q
      rw [ho, ← q]
    · rw [upd_ne hb] at q
      exact c.sub b u q
  · have hb : b ≠ a := fun z => by rw [z] at q2; exact q2 h0
    rw [upd_ne hb]
    exact c.new b q1 q2
  · show as.length = ((setN s.ce k .gone).map _).length
    rw [List.length_map, setN_eq, List.length_set]
    exact c.len
  · obtain ⟨hj, es, q3, _⟩ := cel q2
    have hb : b ≠ a := fun z => hj (inj q1 z)
    rw [upd_ne hb]
    exact c.own j b _ _ q1 q3
  · obtain ⟨hj, es, q3, rfl⟩ := cel q
    obtain ⟨b, ws, w1, w2, w3⟩ := c.cells j _ _ q3
    exact ⟨b, ws, w1, w2, vzs w3⟩
  · have he : (s.sl.map (Option.map (E.fz k (.nd kd ds))))[i]? = some (some e) := he
    rw [List.getElem?_map] at he
    cases q : s.sl[i]? with
    | none => rw [q] at he; cases he
    | some oe =>
      rw [q] at he
      cases oe with
      | none => cases he
      | some e0 =>
        cases he
        obtain ⟨v, w1, w2⟩ := c.slots i e0 q
        exact ⟨v, w1, vz w2⟩
  · show (s.sl.map _).length = σ.length
    rw [List.length_map]
    exact c.slen
/-- the cell k is written -/
def S.put (s : S) (k : Nat) (kd : Kd) (es : List E) : S := ⟨s.sl, setN s.ce k (.nd kd es), s.ar⟩
theorem Cz.put (c : Cz X F as G H σ s) {k : Nat} {a : Addr} {kd kd0 : Kd} {es0 es : List E} {vs : List V} {o : HO} (hk : s.ce[k]? = some (.nd kd0 es0)) (h1 : as[k]? = some a) (hc : CellAt (upd H a o) a vs kd) (hv : VEs X.K G as vs es) :
    Cz X F as G (upd H a o) σ (s.put k kd es) := by
  have gn : G a = none := c.own k a _ _ h1 hk
  have inj : ∀ {j : Nat} {b : Addr}, as[j]? = some b → b = a → j = k := fun {j b} q e => by
    subst e
    obtain ⟨l1, e1⟩ := List.getElem?_eq_some_iff.mp q
    obtain ⟨l2, e2⟩ := List.getElem?_eq_some_iff.mp h1
    exact (List.getElem_inj c.nd).mp (e1.trans e2.symm)
  have am := List.mem_of_getElem? h1
  refine ⟨fun b u q => ?_, c.base, c.new, fun b u q1 q2 => ?_, ?_, c.pre, c.nd, fun j b kd' es' q1 q2 => ?_, c.fresh, fun b hb => ?_, fun j kd' es' q => ?_, c.slots, c.slen, c.har⟩
  · rw [upd_ne (ne_of_none q gn)]; exact c.sub b u q
  · have hb : b ≠ a := fun z => by
      subst z
      rcases c.fresh b am with z | z
      · exact q2 z
      · rw [z] at q1; cases q1
    rw [upd_ne hb]; exact c.frame b u q1 q2
  · show as.length = (setN s.ce k _).length
    rw [setN_eq, List.length_set]; exact c.len
  · have q2 : (setN s.ce k (.nd kd es))[j]? = some (.nd kd' es') := q2
    rw [setN_eq] at q2
    by_cases hj : j = k
    · subst hj
      rw [h1] at q1
      cases q1
      exact gn
    · rw [List.getElem?_set_ne (fun z => hj z.symm)] at q2
      exact c.own j b _ _ q1 q2
  · by_cases hb' : b = a
    · subst hb'; rw [upd_same]; exact fun z => by cases z
    · rw [upd_ne hb']; exact c.there b hb
  · have q : (setN s.ce k (.nd kd es))[j]? = some (.nd kd' es') := q
    rw [setN_eq] at q
    by_cases hj : j = k
    · subst hj
      rw [List.getElem?_set_self (List.getElem?_eq_some_iff.mp hk).1] at q
      cases q
      exact ⟨a, vs, h1, hc, hv⟩
    · rw [List.getElem?_set_ne (fun z => hj z.symm)] at q
      obtain ⟨b, ws, w1, w2, w3⟩ := c.cells j _ _ q
      have hb : b ≠ a := fun z => hj (inj w1 z)
      exact ⟨b, ws, w1, w2.keep fun u z => by rw [upd_ne hb]; exact z, w3⟩
/-- a slot is stored -/
def S.set (s : S) (i : Nat) (e : E) : S := ⟨setN s.sl i (some e), s.ce, s.ar⟩
theorem Cz.set (c : Cz X F as G H σ s) {i : Nat} {v : V} {e : E} (h : VE X.K G as v e) : Cz X F as G H (σ.set i (some v)) (s.set i e) := by
  refine ⟨c.sub, c.base, c.new, c.frame, c.len, c.pre, c.nd, c.own, c.fresh, c.there, c.cells, fun j e' he => ?_, ?_, c.har⟩
  · have he : (setN s.sl i (some e))[j]? = some (some e') := he
    rw [setN_eq] at he
    by_cases hj : j = i
    · subst hj
      by_cases hl : j < s.sl.length
      · rw [List.getElem?_set_self hl] at he
        cases he
        exact ⟨v, by rw [List.getElem?_set_self (by rw [← c.slen]; exact hl)], h⟩
      · rw [List.getElem?_eq_none (by simpa using Nat.le_of_not_lt hl)] at he
        cases he
    · rw [List.getElem?_set_ne (fun z => hj z.symm)] at he
      obtain ⟨w, w1, w2⟩ := c.slots j e' he
      exact ⟨w, by rw [List.getElem?_set_ne (fun z => hj z.symm)]; exact w1, w2⟩
  · show (setN s.sl i (some e)).length = (σ.set i (some v)).length
    rw [setN_eq, List.length_set, List.length_set]
    exact c.slen
/-- less is told: slots forgotten, the cells behind dropped -/
structure Wk (p q : S) : Prop where
  sl : ∀ (i : Nat) (e : E), q.sl[i]? = some (some e) → p.sl[i]? = some (some e)
  len : q.sl.length = p.sl.length
  ce : q.ce <+: p.ce
  ar : q.ar = p.ar
  fit : q.ar ≤ q.ce.length
def E.lt (n : Nat) : E → Bool
  | .d _ => true
  | .r k => decide (k < n)
theorem Cz.weak {s' : S} (c : Cz X F as G H σ s) (w : Wk s s') (h1 : ∀ (i : Nat) (e : E), s'.sl[i]? = some (some e) → e.lt s'.ce.length = true) (h2 : ∀ (k : Nat) (kd : Kd) (es : List E), s'.ce[k]? = some (.nd kd es) → ∀ e ∈ es, E.lt s'.ce.length e = true) :
    Cz X F (as.take s'.ce.length) G H σ s' := by
  have le : s'.ce.length ≤ as.length := by rw [c.len]; exact w.ce.length_le
  have gt : ∀ {k : Nat} {a : Addr}, (as.take s'.ce.length)[k]? = some a → as[k]? = some a := fun {k a} q => by
    have l := (List.getElem?_eq_some_iff.mp q).1
    rw [List.length_take] at l
    rw [List.getElem?_take_of_lt (by omega)] at q
    exact q
  have tg : ∀ {k : Nat} {a : Addr}, k < s'.ce.length → as[k]? = some a → (as.take s'.ce.length)[k]? = some a := fun {k a} l q => by
    rw [List.getElem?_take_of_lt l]; exact q
  have ve : ∀ {v : V} {e : E}, VE X.K G as v e → e.lt s'.ce.length = true → VE X.K G (as.take s'.ce.length) v e := fun {v e} q l => by
    cases e with
    | d x => exact q
    | r k =>
      obtain ⟨a, q1, q2⟩ := q
      exact ⟨a, tg (by simpa [E.lt] using l) q1, q2⟩
  have ves : ∀ {vs : List V} {es : List E}, VEs X.K G as vs es → (∀ e ∈ es, E.lt s'.ce.length e = true) → VEs X.K G (as.take s'.ce.length) vs es := by
    intro vs es h
    induction h with
    | nil => intro _; exact .nil
    | cons h _ ih => intro l; exact .cons (ve h (l _ List.mem_cons_self)) (ih fun e he => l e (List.mem_cons_of_mem _ he))
  have pf : F.A0 <+: as.take s'.ce.length := by
    obtain ⟨t, ht⟩ := c.pre
    have hl : F.A0.length ≤ s'.ce.length := by rw [c.har, ← w.ar]; exact w.fit
    refine ⟨t.take (s'.ce.length - F.A0.length), ?_⟩
    rw [← ht, List.take_append, List.take_of_length_le hl]
  refine ⟨c.sub, c.base, c.new, c.frame, by rw [List.length_take]; omega, pf, c.nd.sublist (List.take_sublist _ _), fun k a kd es q1 q2 => c.own k a kd es (gt q1) (pre_get w.ce q2), fun a ha => c.fresh a (List.mem_of_mem_take ha), fun a ha => c.there a (List.mem_of_mem_take ha), fun k kd es q => ?_, fun i e he => ?_, by rw [w.len]; exact c.slen, by rw [w.ar]; exact c.har⟩
  · obtain ⟨a, vs, q1, q2, q3⟩ := c.cells k kd es (pre_get w.ce q)
    exact ⟨a, vs, tg (List.getElem?_eq_some_iff.mp q).1 q1, q2, ves q3 (h2 k kd es q)⟩
  · obtain ⟨v, q1, q2⟩ := c.slots i e (w.sl i e he)
    exact ⟨v, q1, ve q2 (h1 i e he)⟩
end
end DL
namespace DL
open PySem PySem.Spec PyProof.Rows L2
variable {X : Cx} {F : Fr} {s : S}
/-! ### a context: what every rule asks -/
structure Bx (X : Cx) (k : Nat) : Prop where
  calm : X.calm = true
  nd : X.N.Nodup
  po : PassesOwn (model X.prog X.w) X.A X.env X.xe
  room : Room k X.A
theorem Bx.hu {k : Nat} (B : Bx X k) : X.A.units + 1 < cLine := hu_of B.room
structure GlB (X : Cx) (x : Str) : Prop where
  gl : Gl X x
  mg : X.mg x = none
structure NmW (X : Cx) (i : Nat) (x : Str) : Prop where
  nm : X.N[i]? = some x
  nd : X.N.Nodup
  loc : Loc X.env.scope x
  hf : X.fn x = true ∨ X.env.scope.names.lookup x = some .local
/-! ### builtins -/
def NoStar (e : Expr) : Prop := ∀ (es : List Expr) (env : Env), starEach (e :: es) env = (false, eval e env) :: starEach es env
section
variable {e a b c : Expr} {es rest : List Expr} {Φ : E → S → Prop} {Ψ : Bool → S → Prop} {pos p p2 : Pos} {x : Str} {id T : String} {r : List V → Hp → VK → Prop}
theorem je_cb (hc : CallR X (.builtin id) r) (g : GlB X x) (hv : bootBuiltins x = some (.builtin id)) (h : JA X F (a :: es) s fun vs s1 => JV X F r vs s1 Φ) (hn : x ≠ "__name__" := by decide) (hdb : (x == ("__debug__" : Str)) = false := by decide)
    (he : starEach (a :: es) X.env = (false, eval a X.env) :: starEach es X.env := by rfl) (hpl : (backTo pos (starEach es X.env)).any (·.1) = false := by rfl) : JE X F (.Call (.Name x p) (a :: es) [] pos) s Φ :=
  je_of (pe_callB hc g.gl g.mg hv (pa_sem X _) hn hdb he hpl) fun as G H σ Q c k => h as G H σ _ c fun vs as1 G1 H1 es1 s1 c1 x1 ves h1 => h1 as1 G1 H1 σ vs Q c1 ves fun v as' G' H' e' s' c' x ve q => k v as' G' H' e' s' c' (x1.trans x) ve q
theorem je_ct (hc : CallR X (.type T) r) (g : GlB X x) (hv : bootBuiltins x = some (.type T)) (h : JA X F (a :: es) s fun vs s1 => JV X F r vs s1 Φ) (hn : x ≠ "__name__" := by decide) (hdb : (x == ("__debug__" : Str)) = false := by decide)
    (he : starEach (a :: es) X.env = (false, eval a X.env) :: starEach es X.env := by rfl) (hpl : (backTo pos (starEach es X.env)).any (·.1) = false := by rfl) : JE X F (.Call (.Name x p) (a :: es) [] pos) s Φ :=
  je_of (pe_callTy hc g.gl g.mg hv (pa_sem X _) hn hdb he hpl) fun as G H σ Q c k => h as G H σ _ c fun vs as1 G1 H1 es1 s1 c1 x1 ves h1 => h1 as1 G1 H1 σ vs Q c1 ves fun v as' G' H' e' s' c' x ve q => k v as' G' H' e' s' c' (x1.trans x) ve q
/-- len -/
def LenX (K : PySem.W.Frag) (v : V) (H : Hp) (n : Nat) : Prop := (∃ y, v = .str y ∧ y.length ≤ sizeLine ∧ n = y.length) ∨ ∃ p, v = .ref p ∧ ((∃ xs, SqL K H p xs ∧ n = xs.length) ∨ (∃ xs, SqT K H p xs ∧ n = xs.length) ∨ ∃ kvs, Rd H p (.dK kvs) ∧ n = kvs.length)
def rLen (K : PySem.W.Frag) : List V → Hp → VK → Prop := fun xs H Q => ∃ x n, xs = [x] ∧ LenX K x H n ∧ Q (.int n) H
theorem call_lenX : CallR X (.builtin "len") (rLen X.K) := by
  intro pins st σ H xs us Q I r h
  obtain ⟨x, n, rfl, e, q⟩ := h
  rcases e with ⟨y, rfl, hy, rfl⟩ | ⟨p, rfl, e⟩
  · exact call_len_str pins st σ H _ us Q I r ⟨y, rfl, hy, q⟩
  · rcases e with ⟨ys, hy, rfl⟩ | ⟨ys, hy, rfl⟩ | ⟨kvs, hy, rfl⟩
    · exact call_len_seq pins st σ H _ us Q I r ⟨p, ys, rfl, .inl hy, q⟩
    · exact call_len_seq pins st σ H _ us Q I r ⟨p, ys, rfl, .inr hy, q⟩
    · obtain ⟨u, rfl, rx⟩ := vals1 r
      obtain rfl : u = Value.ref p := rx
      exact d_len I hy fun t s' I' => ⟨.int kvs.length, H, I', ⟨_, rfl⟩, q⟩
theorem je_len (g : GlB X "len") (h : JE X F a s fun e s1 => JV X F (rLen X.K) [e] s1 Φ) (ns : NoStar a := by intro _ _; rfl) : JE X F (.Call (.Name "len" p) [a] [] pos) s Φ :=
  je_cb call_lenX g PySem.boot_len (ja_cons (h.mono fun e s1 q => ja_nil q) (ns _ _)) (he := ns _ _)
theorem jv_len_nd {e : E} {kd : Kd} {es : List E} (h : s.node e = some (kd, es)) (hk : ∀ C fs, kd ≠ .ins C fs) (q : Φ (.d (.int (es.length : Int))) s) : JV X F (rLen X.K) [e] s Φ :=
  fun as G H σ vs Q c ves k => by
    cases ves with
    | cons ve t =>
      cases t
      obtain ⟨a, ws, rfl, n, we⟩ := c.node ve h
      refine ⟨_, es.length, rfl, .inr ⟨a, rfl, ?_⟩, k _ as G H _ s c (Ext.refl _ _) (Rep.int _) q⟩
      have hl := Paired.length we
      cases kd with
      | lst => exact .inl ⟨ws, n, hl.symm⟩
      | tup => exact .inr (.inl ⟨ws, n, hl.symm⟩)
      | dct ks =>
        obtain ⟨n1, n2, od, n3⟩ := n
        exact .inr (.inr ⟨_, .inr ⟨od, n3⟩, by rw [List.length_zip, n1, Nat.min_self, hl]⟩)
      | ins C fs => exact absurd rfl (hk C fs)
theorem jv_len_str {z : Str} (hz : z.length ≤ sizeLine) (q : Φ (.d (.int (z.length : Int))) s) : JV X F (rLen X.K) [.d (.str z)] s Φ :=
  fun as G H σ vs Q c ves k => by
    cases ves with
    | cons ve t =>
      cases t
      cases ve
      exact ⟨_, z.length, rfl, .inl ⟨z, rfl, hz, rfl⟩, k _ as G H _ s c (Ext.refl _ _) (Rep.int _) q⟩
/-- int(x), abs(x), str(i), min, max of two ints -/
def rInt : List V → Hp → VK → Prop := fun xs H Q => (∃ i, xs = [.int i] ∧ Q (.int i) H) ∨ ∃ k, xs = [.bl k] ∧ Q (.int (if k then 1 else 0)) H
theorem je_intc (g : GlB X "int") (h : JE X F a s fun e s1 => JV X F rInt [e] s1 Φ) (ns : NoStar a := by intro _ _; rfl) : JE X F (.Call (.Name "int" p) [a] [] pos) s Φ :=
  je_ct (r := rInt) call_int1 g PyProof.Rows.boot_int (ja_cons (h.mono fun e s1 q => ja_nil q) (ns _ _)) (he := ns _ _)
theorem jv_int_i {i : Int} (q : Φ (.d (.int i)) s) : JV X F rInt [.d (.int i)] s Φ := fun as G H σ vs Q c ves k => by
  cases ves with
  | cons ve t => cases t; cases ve; exact .inl ⟨i, rfl, k _ as G H _ s c (Ext.refl _ _) (Rep.int _) q⟩
theorem jv_int_b {i : Bool} (q : Φ (.d (.int (if i then 1 else 0))) s) : JV X F rInt [.d (.bl i)] s Φ := fun as G H σ vs Q c ves k => by
  cases ves with
  | cons ve t => cases t; cases ve; exact .inr ⟨i, rfl, k _ as G H _ s c (Ext.refl _ _) (Rep.int _) q⟩
def rAbs : List V → Hp → VK → Prop := fun xs H Q => ∃ i, xs = [.int i] ∧ Q (.int (if i < 0 then -i else i)) H
theorem je_abs (g : GlB X "abs") (h : JE X F a s fun e s1 => ∃ i, e = .d (.int i) ∧ Φ (.d (.int (if i < 0 then -i else i))) s1) (ns : NoStar a := by intro _ _; rfl) : JE X F (.Call (.Name "abs" p) [a] [] pos) s Φ :=
  je_cb (r := rAbs) call_abs g PyProof.Rows.boot_abs (ja_cons (h.mono fun e s1 ⟨i, ei, q⟩ => ja_nil fun as G H σ vs Q c ves k => by
    subst ei
    cases ves with
    | cons ve t => cases t; cases ve; exact ⟨i, rfl, k _ as G H _ s1 c (Ext.refl _ _) (Rep.int _) q⟩) (ns _ _)) (he := ns _ _)
def rStrI : List V → Hp → VK → Prop := fun xs H Q => ∃ i : Int, xs = [.int i] ∧ i.natAbs.log2 < 1920 ∧ Q (.str (toString i)) H
theorem je_stri (g : GlB X "str") (h : JE X F a s fun e s1 => ∃ i : Int, e = .d (.int i) ∧ i.natAbs.log2 < 1920 ∧ Φ (.d (.str (toString i))) s1) (ns : NoStar a := by intro _ _; rfl) : JE X F (.Call (.Name "str" p) [a] [] pos) s Φ :=
  je_ct (r := rStrI) call_str_int g PyProof.Rows.boot_str (ja_cons (h.mono fun e s1 ⟨i, ei, h1, q⟩ => ja_nil fun as G H σ vs Q c ves k => by
    subst ei
    cases ves with
    | cons ve t => cases t; cases ve; exact ⟨i, rfl, h1, k _ as G H _ s1 c (Ext.refl _ _) (Rep.str _) q⟩) (ns _ _)) (he := ns _ _)
/-- isinstance(x, T), T a built-in type -/
def tyE (s : S) : E → Option String
  | .d .non => some "NoneType"
  | .d (.bl _) => some "bool"
  | .d (.int _) => some "int"
  | .d (.str _) => some "str"
  | .d (.nd .tup _) => some "tuple"
  | .d (.nd .lst _) => some "list"
  | .d (.nd (.dct _) _) => some "dict"
  | .d (.nd (.ins _ _) _) => none
  | .r i => match nth s.ce i with
    | some (.nd .tup _) => some "tuple"
    | some (.nd .lst _) => some "list"
    | some (.nd (.dct _) _) => some "dict"
    | _ => none
theorem tyx_node {K : PySem.W.Frag} {H : Hp} {a : Addr} {vs : List V} {kd : Kd} {t : String} (n : NodeAt K H a vs kd) (h : (match kd with | .tup => some "tuple" | .lst => some "list" | .dct _ => some "dict" | .ins _ _ => none) = some t) : TyX K H (.ref a) (.type t) := by
  cases kd with
  | tup =>
    cases h
    rcases n with (n | ⟨o, n⟩) | ⟨o, its, k, h1, h2, h3, h4, h5⟩
    · exact .base (.tup n)
    · exact .fTuple n
    · exact .kTuple h1 h2
  | lst =>
    cases h
    rcases n with (n | ⟨o, n⟩) | ⟨o, its, k, h1, h2, h3, h4, h5⟩
    · exact .base (.lst n)
    · exact .base (.frz n)
    · exact .kList h1 h2
  | dct ks =>
    cases h
    obtain ⟨_, _, od, n⟩ := n
    exact .fDict n
  | ins C fs => cases h
theorem tyx_of {as : List Addr} {G H : Hp} {σ : L2.St} (c : Cz X F as G H σ s) {v : V} {e : E} {t : String} (ve : VE X.K G as v e) (h : tyE s e = some t) : TyX X.K H v (.type t) := by
  cases e with
  | d x =>
    cases ve with
    | non => cases h; exact .base .non
    | bl b => cases h; exact .base (.bl b)
    | int i => cases h; exact .base (.int i)
    | str z => cases h; exact .base (.str z)
    | @nd a vs k ds n r =>
      refine tyx_node (n.mono c.sub) ?_
      cases k <;> exact h
  | r i =>
    have h : (match nth s.ce i with
      | some (.nd .tup _) => some "tuple"
      | some (.nd .lst _) => some "list"
      | some (.nd (.dct _) _) => some "dict"
      | _ => none) = some t := h
    rw [nth_eq] at h
    cases hc : s.ce[i]? with
    | none => rw [hc] at h; cases h
    | some cl =>
      rw [hc] at h
      cases cl with
      | gone => cases h
      | nd k es =>
        obtain ⟨a, h1, h2⟩ := ve
        obtain ⟨a', vs, g1, g2, g3⟩ := c.cells i _ _ hc
        rw [h1] at g1
        cases g1
        subst h2
        refine tyx_node g2.node ?_
        cases k <;> exact h
theorem je_isi {x2 : Str} {T : String} (g : GlB X "isinstance") (gt : GlB X x2) (hv : bootBuiltins x2 = some (.type T)) (h : JE X F a s fun e s1 => ∃ t k, tyE s1 e = some t ∧ kitB t T = some k ∧ Φ (.d (.bl k)) s1)
    (hn : x2 ≠ "__name__" := by decide) (hdb : (x2 == ("__debug__" : Str)) = false := by decide) (ns : NoStar a := by intro _ _; rfl) : JE X F (.Call (.Name "isinstance" p) [a, .Name x2 p2] [] pos) s Φ :=
  je_of (pe_callB call_isi g.gl g.mg PyProof.Rows.boot_isinstance (pa_cons (pe_sem X a) (pa_cons (pe_bltn (v := .ty T) gt.gl gt.mg hv rfl hn hdb) pa_nil) (ns _ _)) (he := ns _ _)) fun as G H σ Q c k => h as G H σ _ c fun v as1 G1 H1 e1 s1 c1 x1 ve ⟨t, kk, h1, h2, q⟩ =>
    ⟨v, .ty T, .type t, .type T, kk, rfl, .ty T, tyx_of c1 ve h1, kit_ty h2, k _ as1 G1 H1 _ s1 c1 x1 (Rep.bl _) q⟩
/-- truth of a value, as a test -/
def truE (s : S) : E → Option Bool
  | .d .non => some false
  | .d (.bl b) => some b
  | .d (.int i) => some (i != 0)
  | e => match s.node e with
    | some (.lst, es) => some (!es.isEmpty)
    | some (.tup, es) => some (!es.isEmpty)
    | _ => none
/-! ### new objects -/
def hoOf : Kd → List V → HO
  | .tup, vs => .tup vs
  | .lst, vs => .lst vs
  | .dct ks, vs => .dK (ks.zip vs)
  | .ins _ _, vs => .lst vs
/-- the expression makes a new object: its kind, its members -/
def JN (X : Cx) (F : Fr) (e : Expr) (s : S) (Θ : Kd → List E → S → Prop) : Prop := ∀ as G H σ (Q : VK), Cz X F as G H σ s →
  (∀ q vs as' G' H' kd es s', Cz X F as' G' H' σ s' → Ext as as' G G' → H' q = none → (∀ ks, kd = .dct ks → ks.length = vs.length ∧ ks.Nodup) → VEs X.K G' as' vs es → Θ kd es s' → Q (.ref q) (upd H' q (hoOf kd vs))) → semE X e σ H Q
theorem JN.mono {Θ Θ' : Kd → List E → S → Prop} (h : JN X F e s Θ) (m : ∀ k es s, Θ k es s → Θ' k es s) : JN X F e s Θ' := fun as G H σ Q c k => h as G H σ Q c fun q vs as' G' H' kd es s' c' x hq hk ve t => k q vs as' G' H' kd es s' c' x hq hk ve (m _ _ _ t)
theorem je_new {kd : Kd} (h : JN X F e s fun k es s1 => k = kd ∧ ∃ ds, dsOf es = some ds ∧ Φ (.d (.nd kd ds)) s1) (hk : kd = .tup ∨ kd = .lst) : JE X F e s Φ :=
  fun as G H σ Q c k => h as G H σ Q c fun q vs as' G' H' k' es s' c' x hq _ ve ⟨e1, ds, e2, t⟩ => by
    subst e1
    rw [dsOf_eq e2] at ve
    have sg : Same G' (upd G' q (hoOf k' vs)) := same_new (c'.gnone hq)
    refine k _ as' (upd G' q (hoOf k' vs)) _ (.d (.nd k' ds)) s' (c'.addG hq) (x.trans ⟨List.prefix_refl _, sg⟩) (.nd ?_ (ve.reps.mono sg)) t
    rcases hk with rfl | rfl
    · exact SqT.of upd_same
    · exact SqL.of upd_same
/-- .. owned -/
theorem je_own (h : JN X F e s fun k es s1 => k = .lst ∧ Φ (.r s1.ce.length) (s1.push .lst es)) : JE X F e s Φ :=
  fun as G H σ Q c k => h as G H σ Q c fun q vs as' G' H' k' es s' c' x hq _ ve ⟨e1, t⟩ => by
    subst e1
    exact k _ _ G' _ (.r s'.ce.length) _ (c'.addO (kd := .lst) hq upd_same ve) (x.trans ⟨pre_snoc, Same.refl _⟩) ⟨q, by rw [← c'.len, List.getElem?_append_right (Nat.le_refl _)]; simp, rfl⟩ t
theorem sem_lock {σ : L2.St} {H : Hp} {Q : VK} (h : semE X e σ H fun v H' => ∃ d u, H' d = some u ∧ Mut (some u) ∧ ∀ od, Q v (upd H' d (.frz od u))) : semE X e σ H Q := fun pins st I =>
  thn (h pins st I) fun v s1 ⟨x, H1, I1, r, d, u, hd, mu, q⟩ => by
    obtain ⟨od, I2⟩ := I1.lock hd mu
    exact ⟨x, _, I2, r, q od⟩
theorem je_ownD (h : JN X F e s fun k es s1 => ∃ ks, k = .dct ks ∧ Φ (.r s1.ce.length) (s1.push (.dct ks) es)) : JE X F e s Φ :=
  fun as G H σ Q c k => sem_lock (h as G H σ _ c fun q vs as' G' H' k' es s' c' x hq hks ve ⟨ks, e1, t⟩ => by
    subst e1
    obtain ⟨l1, l2⟩ := hks ks rfl
    refine ⟨q, _, upd_same, trivial, fun od => ?_⟩
    rw [upd_upd]
    exact k _ _ G' _ (.r s'.ce.length) _ (c'.addO (kd := .dct ks) hq ⟨l1, l2, od, upd_same⟩ ve) (x.trans ⟨pre_snoc, Same.refl _⟩) ⟨q, by rw [← c'.len, List.getElem?_append_right (Nat.le_refl _)]; simp, rfl⟩ t)
/-- freezing what an expression hands back -/
theorem je_frz (h : JE X F e s fun e1 s1 => ∃ k kd es ds, e1 = .r k ∧ nth s1.ce k = some (.nd kd es) ∧ dsOf es = some ds ∧ (∀ C fs, kd ≠ .ins C fs) ∧ s1.ar ≤ k ∧ Φ (.d (.nd kd ds)) (s1.fz k (.nd kd ds))) : JE X F e s Φ :=
  fun as G H σ Q c k => h as G H σ Q c fun v as' G' H' e1 s' c' x ve ⟨j, kd, es, ds, e1, e2, e3, e4, e5, t⟩ => by
    subst e1
    rw [dsOf_eq e3] at e2
    obtain ⟨a, G2, h1, x2, c2, rep⟩ := c'.fz e2 e4 e5
    obtain ⟨b, h2, rfl⟩ := ve
    rw [h1] at h2
    cases h2
    exact k _ as' G2 H' _ _ c2 (x.trans x2) rep t
/-- displays -/
theorem jn_lst {Θ : Kd → List E → S → Prop} (h : JA X F es s fun vs s1 => vs.length ≤ sizeLine ∧ Θ .lst vs s1) : JN X F (.List es pos) s Θ := fun as G H σ Q c k => PE.sem (pe_lst (pa_sem X es)) (h as G H σ _ c fun vs as1 G1 H1 es1 s1 c1 x1 ves ⟨h1, h2⟩ =>
  ⟨by rw [Paired.length ves]; exact h1, fun q hq => k q vs as1 G1 H1 .lst es1 s1 c1 x1 hq (fun ks z => by cases z) ves h2⟩)
theorem jn_tup {Θ : Kd → List E → S → Prop} {k1 : Nat} (h : JA X F es s fun vs s1 => vs.length ≤ sizeLine ∧ Θ .tup vs s1) : JN X F (.Tuple es k1 pos) s Θ := fun as G H σ Q c k => PE.sem (pe_tup (pa_sem X es)) (h as G H σ _ c fun vs as1 G1 H1 es1 s1 c1 x1 ves ⟨h1, h2⟩ =>
  ⟨by rw [Paired.length ves]; exact h1, fun q hq => k q vs as1 G1 H1 .tup es1 s1 c1 x1 hq (fun ks z => by cases z) ves h2⟩)
theorem je_tup {k1 : Nat} (h : JA X F es s fun vs s1 => vs.length ≤ sizeLine ∧ ∃ ds, dsOf vs = some ds ∧ Φ (.d (.nd .tup ds)) s1) : JE X F (.Tuple es k1 pos) s Φ :=
  je_new (kd := .tup) (jn_tup (fun as G H σ Q c k => h as G H σ Q c fun vs as' G' H' es' s' c' x ve ⟨h1, ds, h2, h3⟩ => k vs as' G' H' es' s' c' x ve ⟨h1, rfl, ds, h2, h3⟩)) (.inl rfl)
theorem je_lst (h : JA X F es s fun vs s1 => vs.length ≤ sizeLine ∧ ∃ ds, dsOf vs = some ds ∧ Φ (.d (.nd .lst ds)) s1) : JE X F (.List es pos) s Φ :=
  je_new (kd := .lst) (jn_lst (fun as G H σ Q c k => h as G H σ Q c fun vs as' G' H' es' s' c' x ve ⟨h1, ds, h2, h3⟩ => k vs as' G' H' es' s' c' x ve ⟨h1, rfl, ds, h2, h3⟩)) (.inr rfl)
theorem jn_dict0 {Θ : Kd → List E → S → Prop} (h : Θ (.dct []) [] s) : JN X F (.Dict [] [] pos) s Θ := fun as G H σ Q c k => PE.sem pe_dnewK fun q hq => k q [] as G H (.dct []) [] s c (Ext.refl _ _) hq (fun ks z => by cases z; exact ⟨rfl, List.nodup_nil⟩) .nil h
end
/-! ### statements -/
section
variable {e a b c : Expr} {es rest : List Expr} {st : Stmt} {sts : List Stmt} {P : Po} {pos p p' : Pos} {x : Str}
theorem jss_nil (h : P.nx s) : JSs X F [] s P := fun as G H σ D c k => PSs.sem pss_nil (k.nx as G H σ s c (Same.refl _) h)
theorem jss_cons (h : JS X F st s { P with nx := fun s1 => JSs X F sts s1 P }) : JSs X F (st :: sts) s P := fun as G H σ D c k =>
  PSs.sem (pss_cons (ps_sem X st) (pss_sem X sts)) (h as G H σ _ c ⟨fun as' G' H' σ' s' c' x q => q as' G' H' σ' D c' (k.exs x), k.rt, k.bk, k.ct⟩)
theorem js_set {i : Nat} (n : NmW X i x) (h : JE X F e s fun e1 s1 => P.nx (s1.set i e1)) (hs : swapsWith e (some (.Name x p')) pos.line X.env = pure false := by rfl) : JS X F (.Assign [.Name x p'] e pos) s P :=
  fun as G H σ D c k => PS.sem (ps_set n.nd n.nm n.loc (pe_sem X e) hs n.hf) (h as G H σ _ c fun v as1 G1 H1 e1 s1 c1 x1 ve q => k.nx as1 G1 H1 _ _ (c1.set ve) x1.sub q)
theorem js_ret (h : JE X F e s P.rt) : JS X F (.Return (some e) pos) s P := fun as G H σ D c k => PS.sem (ps_ret (pe_sem X e)) (h as G H σ _ c fun v as1 G1 H1 e1 s1 c1 x1 ve q => k.rt v as1 G1 H1 σ e1 s1 c1 x1.sub ve q)
theorem js_retN (h : P.rt (.d .non) s) : JS X F (.Return none pos) s P := fun as G H σ D c k => PS.sem ps_retN (k.rt _ as G H σ _ s c (Same.refl _) Rep.non h)
theorem js_break (h : P.bk s) : JS X F (.Break pos) s P := fun as G H σ D c k => PS.sem ps_break (k.bk as G H σ s c (Same.refl _) h)
theorem js_cont (h : P.ct s) : JS X F (.Continue pos) s P := fun as G H σ D c k => PS.sem ps_continue (k.ct as G H σ s c (Same.refl _) h)
theorem js_expr (h : JE X F e s fun _ s1 => P.nx s1) (hs : swapsWith e none pos.line X.env = pure false := by rfl) : JS X F (.Expr e pos) s P := fun as G H σ D c k => PS.sem (ps_expr (pe_sem X e) hs) (h as G H σ _ c fun v as1 G1 H1 e1 s1 c1 x1 ve q => k.nx as1 G1 H1 σ s1 c1 x1.sub q)
theorem js_doc {z : Str} {j : Nat} (h : P.nx s) : JS X F (.Expr (.Constant (.str z) j p) pos) s P := fun as G H σ D c k => PS.sem ps_doc (k.nx as G H σ s c (Same.refl _) h)
theorem js_if {t u : List Stmt} (h : JT X F c s fun k s1 => if k = true then JSs X F t s1 P else JSs X F u s1 P) : JS X F (.If c t u pos) s P := fun as G H σ D c k =>
  PS.sem (ps_if (pt_sem X _) (pss_sem X t) (pss_sem X u)) (h as G H σ _ c fun b as1 G1 H1 s1 c1 x1 q => by
    cases b with
    | true =>
      simp only [if_true] at q ⊢
      exact q as1 G1 H1 σ D c1 (k.ext x1)
    | false => exact q as1 G1 H1 σ D c1 (k.ext x1))
/-- a, b = x, y -/
theorem js_par {i j : Nat} {y : Str} {px py pt pt2 : Pos} {kt k2 : Nat} {B : Nat} (bx : Bx X B) (n : NmW X i x) (m : NmW X j y) (hij : i ≠ j) (lx : X.env.scope.names.lookup x = some .local) (ly : X.env.scope.names.lookup y = some .local)
    (hw : swappedStores [.Tuple [.Name x px, .Name y py] kt pt] (.Tuple [a, b] k2 pt2) X.env = pure (some [x, y]))
    (h : JE X F a s fun e1 s1 => JE X F b s1 fun e2 s2 => P.nx ((s2.set i e1).set j e2)) 
    (hs : swapsWithSole [.Tuple [.Name x px, .Name y py] kt pt] (.Tuple [a, b] k2 pt2) pos.line X.env = pure false := by rfl) (ns : NoStar a := by intro _ _; rfl) (ns2 : NoStar b := by intro _ _; rfl) : JS X F (.Assign [.Tuple [.Name x px, .Name y py] kt pt] (.Tuple [a, b] k2 pt2) pos) s P :=
  fun as G H σ D c k => PS.sem (ps_par bx.calm n.nd n.nm m.nm hij lx ly (pa_cons (pe_sem X a) (pa_cons (pe_sem X b) pa_nil (ns2 _ _)) (ns _ _)) hw hs)
    (h as G H σ _ c fun v1 as1 G1 H1 e1 s1 c1 x1 ve1 h1 => h1 as1 G1 H1 σ _ c1 fun v2 as2 G2 H2 e2 s2 c2 x2 ve2 q => ⟨v1, v2, rfl, k.nx as2 G2 H2 _ _ ((c2.set (x2.ve ve1)).set ve2) (x1.trans x2).sub q⟩)
/-! targets -/
theorem jg_name {i : Nat} {v : E} {Φ : S → Prop} (n : NmW X i x) (h : Φ (s.set i v)) : JG X F (.Name x p) v s Φ := fun as G H σ u Q c ve k => PG.sem (pg_name n.nd n.nm n.loc n.hf) (k as G H _ _ (c.set ve) (Ext.refl _ _) h)
def JGs (X : Cx) (F : Fr) (ts : List Expr) (es : List E) (s : S) (Φ : S → Prop) : Prop := ∀ as G H σ vs (Q : L2.St → Hp → Prop), Cz X F as G H σ s → VEs X.K G as vs es →
  (∀ as' G' H' σ' s', Cz X F as' G' H' σ' s' → Ext as as' G G' → Φ s' → Q σ' H') →
    ∀ pins st us, Inv X pins σ H st → Vals vs us → wpAny (model X.prog X.w) X.A (assignInOrder ((assignEach ts X.env).map (·.2)) us) (fun _ s' => ∃ σ' H', Inv X pins σ' H' s' ∧ Q σ' H') X.xe st
def semGs (X : Cx) (ts : List Expr) : TGs := fun vs σ H Q => ∀ pins st us, Inv X pins σ H st → Vals vs us → wpAny (model X.prog X.w) X.A (assignInOrder ((assignEach ts X.env).map (·.2)) us) (fun _ s' => ∃ σ' H', Inv X pins σ' H' s' ∧ Q σ' H') X.xe st
theorem pgs_sem (X : Cx) (ts : List Expr) : PGs X ts (semGs X ts) := ⟨fun pins s σ H vs us Q I r h => h pins s us I r⟩
theorem jgs_nil {Φ : S → Prop} (h : Φ s) : JGs X F [] [] s Φ := fun as G H σ vs Q c ve k pins st us I r => by
  cases ve
  exact pgs_nil.run pins st σ H [] us Q I r ⟨rfl, k as G H σ s c (Ext.refl _ _) h⟩
theorem jgs_cons {t : Expr} {ts : List Expr} {v : E} {vs : List E} {Φ : S → Prop} (h : JG X F t v s fun s1 => JGs X F ts vs s1 Φ) (hs : (assignEach (t :: ts) X.env).map (·.2) = assign t X.env :: (assignEach ts X.env).map (·.2) := by rfl) : JGs X F (t :: ts) (v :: vs) s Φ :=
  fun as G H σ ws Q c ve k pins st us I r => by
    cases ve with
    | cons v1 v2 =>
      refine (pgs_cons (pg_sem X t) (u := fun vs σ H Q => ∀ pins st us, Inv X pins σ H st → Vals vs us → wpAny (model X.prog X.w) X.A (assignInOrder ((assignEach ts X.env).map (·.2)) us) (fun _ s' => ∃ σ' H', Inv X pins σ' H' s' ∧ Q σ' H') X.xe st) ⟨fun pins s σ H vs us Q I r h => h pins s us I r⟩ hs).run pins st σ H _ us Q I r ⟨_, _, rfl, ?_⟩
      exact h as G H σ _ _ c v1 fun as1 G1 H1 σ1 s1 c1 x1 q => q as1 G1 H1 σ1 _ Q c1 (x1.ves v2) fun as' G' H' σ' s' c' x t => k as' G' H' σ' s' c' (x1.trans x) t
theorem jg_tup {k1 : Nat} {v : E} {vs : List E} {Φ : S → Prop} {B : Nat} (bx : Bx X B) (hn : s.node v = some (.tup, vs)) (hl : vs.length = es.length) (h : JGs X F es vs s Φ)
    (hn2 : (assignEach es X.env).length = es.length := by rfl) (hst : (assignEach es X.env).findIdx? (·.1) = none := by rfl) : JG X F (.Tuple es k1 p) v s Φ :=
  fun as G H σ u Q c ve k => by
    obtain ⟨a, ws, rfl, n, we⟩ := c.node ve hn
    exact PG.sem (pg_tup (n := es.length) bx.calm (pgs_sem X es) hn2 hst) ⟨a, ws, rfl, n, by rw [Paired.length we, hl], fun pins st us I r => h as G H σ ws Q c we k pins st us I r⟩
theorem js_asg {tg : Expr} (h : JE X F e s fun e1 s1 => JG X F tg e1 s1 P.nx) (hs : swapsWithSole [tg] e pos.line X.env = pure false := by rfl) (hw : swappedStores [tg] e X.env = pure none := by rfl)
    (h1 : (assignEach [tg] X.env).map (·.2) = [assign tg X.env] := by rfl) : JS X F (.Assign [tg] e pos) s P :=
  fun as G H σ D c k => PS.sem (ps_asg (pe_sem X e) (pg_sem X tg) hs hw h1) (h as G H σ _ c fun v as1 G1 H1 e1 s1 c1 x1 ve q => q as1 G1 H1 σ v _ c1 ve fun as' G' H' σ' s' c' x t => k.nx as' G' H' σ' s' c' (x1.trans x).sub t)
/-- xs[i] = v, xs owned -/
theorem jg_setL {o i : Expr} {v : E} {Φ : S → Prop} (h : JE X F o s fun eo s1 => JE X F i s1 fun ei s2 => ∃ k n es j, eo = .r k ∧ ei = .d (.int n) ∧ nth s2.ce k = some (.nd .lst es) ∧ ixN es.length n = some j ∧ Φ (s2.put k .lst (es.set j v)))
    (ha : ∀ v, assign (.Subscript o i p) X.env v = (do
      let ov ← holding [v] (eval o X.env)
      let iv ← holding [v, ov] (eval i X.env)
      standAt p
      holding [v, ov, iv] (setItem ov iv v)
      release [v, ov, iv] []) := by intro _; rfl) : JG X F (.Subscript o i p) v s Φ :=
  fun as G H σ u Q c ve k => PG.sem (pg_sub (pe_sem X o) (pe_sem X i) set_list ha) (h as G H σ _ c fun v1 as1 G1 H1 e1 s1 c1 x1 ve1 h1 => h1 as1 G1 H1 σ _ c1 fun v2 as2 G2 H2 e2 s2 c2 x2 ve2 ⟨kk, n, es, j, q1, q2, q3, q4, q5⟩ => by
    subst q1 q2
    cases ve2
    obtain ⟨a, ha, rfl⟩ := x2.ve ve1
    rw [nth_eq] at q3
    obtain ⟨a', vs, g1, g2, g3⟩ := c2.cells kk _ _ q3
    rw [ha] at g1
    cases g1
    have g2' : H2 a = some (.lst vs) := g2
    have hl := Paired.length g3
    refine ⟨a, vs, n, j, rfl, rfl, g2', by rw [hl]; exact q4, ?_⟩
    have vu := (x1.trans x2).ve ve
    have hv : VEs X.K G2 as2 (vs.set j u) (es.set j v) := by
      clear q4 q5 g2' g2 hl q3
      induction g3 generalizing j with
      | nil => exact .nil
      | cons r t ih =>
        cases j with
        | zero => exact .cons vu t
        | succ j => exact .cons r (ih j)
    exact k as2 G2 _ σ _ (c2.put (kd := .lst) q3 ha upd_same hv) (x1.trans x2) q5)
/-- xs.append(v), xs owned -/
theorem je_append {o e : Expr} {apos : Pos} {Φ : E → S → Prop} (h : JE X F o s fun eo s1 => ∃ k es0, eo = .r k ∧ nth s1.ce k = some (.nd .lst es0) ∧ JE X F e s1 fun v s2 => ∃ es, nth s2.ce k = some (.nd .lst es) ∧ es.length < sizeLine ∧ Φ (.d .non) (s2.put k .lst (es ++ [v])))
    (hbase : attributeBase o "append" X.env (eval o X.env) = eval o X.env := by rfl)
    (hfew : ((backTo pos (starEach (e :: []) X.env)).all (fun x => !x.1) && (backToKw pos (keywordEach [] X.env)).all (fun x => x.1.isSome)
      && decide ((e :: ([] : List Expr)).length + ([] : List Keyword).length + (if ([] : List Keyword).isEmpty then 0 else 1) < 30)) = true := by rfl)
    (hline : (apos.endLine == pos.line) = true := by rfl) (hs : NoStar e := by intro _ _; rfl) (hplain : (backTo pos (starEach [] X.env)).any (·.1) = false := by rfl) :
    JE X F (.Call (.Attribute o "append" apos) [e] [] pos) s Φ :=
  je_of (pe_bm PySem.F.plainAttrs_list PySem.F.slot_list_append PySem.F.type_list_append mt_append (pe_sem X o) (pa_cons (pe_sem X e) pa_nil (hs _ _)) hbase hfew hline (hs _ _) hplain) fun as G H σ Q c kk =>
    h as G H σ _ c fun v1 as1 G1 H1 e1 s1 c1 x1 ve1 ⟨k, es0, q1, q2, h1⟩ => by
      subst q1
      obtain ⟨a, ha, rfl⟩ := ve1
      rw [nth_eq] at q2
      obtain ⟨a', vs, g1, g2, g3⟩ := c1.cells k _ _ q2
      rw [ha] at g1
      cases g1
      refine ⟨.inl ⟨rfl, vs, SqL.of g2⟩, ?_⟩
      refine h1 as1 G1 H1 σ _ c1 fun v2 as2 G2 H2 e2 s2 c2 x2 ve2 ⟨es, w1, w2, w3⟩ => ?_
      rw [nth_eq] at w1
      obtain ⟨b, ws, y1, y2, y3⟩ := c2.cells k _ _ w1
      have ha2 := pre_get x2.pre ha
      rw [ha2] at y1
      cases y1
      have y2' : H2 a = some (.lst ws) := y2
      have hl := Paired.length y3
      refine ⟨a, ws, v2, rfl, rfl, y2', by rw [hl]; exact w2, ?_⟩
      exact kk _ as2 G2 _ _ _ (c2.put (kd := .lst) w1 ha2 upd_same (y3.snoc ve2)) (x1.trans x2) Rep.non w3
end
end DL
namespace DL
open PySem PySem.Spec PyProof.Rows L2
/-! ### a body's context -/
structure XIs (X : Cx) (P : Program) (w : World) (K : PySem.W.Frag) (mg : Str → Option Value) (base : Heap) (N : List Str) (sc : Scope) (k : Nat) : Prop where
  eP : X.prog = P
  eW : X.w = w
  eK : X.K = K
  eM : X.mg = mg
  eB : X.base = base
  eN : X.N = N
  eS : X.env.scope = sc
  calm : X.calm = true
  nd : N.Nodup
  xe : X.xe = fun _ _ => False
  room : Room k X.A
section
variable {X : Cx} {P : Program} {w : World} {K : PySem.W.Frag} {mg : Str → Option Value} {base : Heap} {N : List Str} {sc : Scope} {k : Nat}
theorem XIs.bx (h : XIs X P w K mg base N sc k) : Bx X k := ⟨h.calm, h.eN ▸ h.nd, by rw [h.xe]; exact PassesOwn.never, h.room⟩
theorem XIs.nmR (h : XIs X P w K mg base N sc k) {i : Nat} {x : Str} (h1 : N[i]? = some x) (h2 : Vis sc x) (h3 : (x == ("__debug__" : Str)) = false := by decide) (h4 : (x == ("__classdict__" : Str)) = false := by decide) : NmR X i x := ⟨by rw [h.eN]; exact h1, by rw [h.eS]; exact h2, h3, h4⟩
theorem XIs.nmW (h : XIs X P w K mg base N sc k) {i : Nat} {x : Str} (h1 : N[i]? = some x) (h2 : sc.names.lookup x = some .local) : NmW X i x := ⟨by rw [h.eN]; exact h1, h.eN ▸ h.nd, .inl (by rw [h.eS]; exact h2), .inr (by rw [h.eS]; exact h2)⟩
theorem XIs.nmC (h : XIs X P w K mg base N sc k) {i : Nat} {x : Str} (h1 : N[i]? = some x) (h2 : sc.names.lookup x = some .cell) (hf : X.fn x = true) : NmW X i x := ⟨by rw [h.eN]; exact h1, h.eN ▸ h.nd, .inr (by rw [h.eS]; exact h2), .inl hf⟩
theorem XIs.gl (h : XIs X P w K mg base N sc k) {x : Str} (h1 : sc.names.lookup x = some .globalImplicit) : Gl X x := by
  show X.env.scope.names.lookup x = _
  rw [h.eS]; exact h1
theorem XIs.glb (h : XIs X P w K mg base N sc k) {x : Str} (h1 : sc.names.lookup x = some .globalImplicit) (h2 : mg x = none) : GlB X x := ⟨h.gl h1, by rw [h.eM]; exact h2⟩
theorem XIs.loc (h : XIs X P w K mg base N sc k) {x : Str} (h1 : sc.names.lookup x = some .local) : X.env.scope.names.lookup x = some .local := by rw [h.eS]; exact h1
end
/-! ### what a def promises, over data -/
inductive Rt where
  | dat (x : D) | new (k : Kd) (ds : List D)
def RtAt (K : PySem.W.Frag) (G H' H : Hp) (v : V) : Rt → Prop
  | .dat x => Rep K G v x
  | .new k ds => ∃ a vs, v = .ref a ∧ H a = none ∧ G a = none ∧ CellAt H' a vs k ∧ Reps K G vs ds
abbrev RP := List D → (Rt → Prop) → Prop
/-- a def that owns none of its arguments -/
def spP (K : PySem.W.Frag) (R : RP) : Sp := fun vs H Q _ => ∃ G ds, Same G H ∧ Reps K G vs ds ∧ R ds fun r => ∀ v G' H', Same H H' → Same G G' → Same G' H' → (∀ b, G b = none → H b ≠ none → G' b = none) → RtAt K G' H' H v r → Q v H'
abbrev RC1 := Kd → List D → List D → (Rt → Kd → List D → Prop) → Prop
/-- a def whose first argument is owned -/
def spC (K : PySem.W.Frag) (R : RC1) : Sp := fun vs H Q _ => ∃ a rest cvs kd cds ds G, vs = .ref a :: rest ∧ Same G H ∧ G a = none ∧ CellAt H a cvs kd ∧ Reps K G cvs cds ∧ Reps K G rest ds ∧
  R kd cds ds fun r kd' cds' => ∀ v G' H' cvs', (∀ b o, b ≠ a → H b = some o → H' b = some o) → Same G G' → Same G' H' → (∀ b, G b = none → H b ≠ none → G' b = none) → CellAt H' a cvs' kd' → Reps K G' cvs' cds' → RtAt K G' H' H v r → Q v H'
def MonoP (R : RP) : Prop := ∀ ds p q, (∀ r, p r → q r) → R ds p → R ds q
def MonoC (R : RC1) : Prop := ∀ kd cds ds p q, (∀ r k c, p r k c → q r k c) → R kd cds ds p → R kd cds ds q
structure CaP (P : Program) (w : World) (K : PySem.W.Frag) (mg : Str → Option Value) (base : Heap) (x : Str) (k : Nat) (R : RP) : Prop where
  mono : MonoP R
  ex : ∃ f fd ps, mg x = some (.ref f) ∧ PySem.W.keepIn K (.ref f) = true ∧ Binds K fd ps [] ∧ FnOk P w K mg base CX0 k f fd ps (spP K R)
structure CaC (P : Program) (w : World) (K : PySem.W.Frag) (mg : Str → Option Value) (base : Heap) (x : Str) (k : Nat) (R : RC1) : Prop where
  mono : MonoC R
  ex : ∃ f fd ps, mg x = some (.ref f) ∧ PySem.W.keepIn K (.ref f) = true ∧ Binds K fd ps [] ∧ FnOk P w K mg base CX0 k f fd ps (spC K R)
/-- .. seen from a body -/
structure CbP (X : Cx) (x : Str) (k : Nat) (R : RP) : Prop where
  gl : Gl X x
  mono : MonoP R
  ex : ∃ f fd ps, X.mg x = some (.ref f) ∧ PySem.W.keepIn X.K (.ref f) = true ∧ Binds X.K fd ps [] ∧ FnOk X.prog X.w X.K X.mg X.base CX0 k f fd ps (spP X.K R)
structure CbC (X : Cx) (x : Str) (k : Nat) (R : RC1) : Prop where
  gl : Gl X x
  mono : MonoC R
  ex : ∃ f fd ps, X.mg x = some (.ref f) ∧ PySem.W.keepIn X.K (.ref f) = true ∧ Binds X.K fd ps [] ∧ FnOk X.prog X.w X.K X.mg X.base CX0 k f fd ps (spC X.K R)
theorem CaP.at {X : Cx} {P : Program} {w : World} {K : PySem.W.Frag} {mg : Str → Option Value} {base : Heap} {N : List Str} {sc : Scope} {k j : Nat} {x : Str} {R : RP} (c : CaP P w K mg base x j R) (h : XIs X P w K mg base N sc k)
    (h1 : sc.names.lookup x = some .globalImplicit) : CbP X x j R := by
  obtain ⟨e1, e2, e3, e4, e5, _⟩ := id h
  subst e1 e2 e3 e4 e5
  exact ⟨h.gl h1, c.mono, c.ex⟩
theorem CaC.at {X : Cx} {P : Program} {w : World} {K : PySem.W.Frag} {mg : Str → Option Value} {base : Heap} {N : List Str} {sc : Scope} {k j : Nat} {x : Str} {R : RC1} (c : CaC P w K mg base x j R) (h : XIs X P w K mg base N sc k)
    (h1 : sc.names.lookup x = some .globalImplicit) : CbC X x j R := by
  obtain ⟨e1, e2, e3, e4, e5, _⟩ := id h
  subst e1 e2 e3 e4 e5
  exact ⟨h.gl h1, c.mono, c.ex⟩
/-- what a body must end with -/
def RtE (post : Rt → Prop) : E → S → Prop
  | .d x, _ => post (.dat x)
  | .r k, s => ∃ kd es ds, nth s.ce k = some (.nd kd es) ∧ dsOf es = some ds ∧ s.ar ≤ k ∧ post (.new kd ds)
def entry (N : List Str) (ds : List E) (ce : List Cell) (ar : Nat) : S := ⟨ds.map some ++ List.replicate (N.length - ds.length) none, ce, ar⟩
section
variable {P : Program} {w : World} {K : PySem.W.Frag} {mg : Str → Option Value} {base : Heap} {x qual : Str} {st : Stmt} {f : Addr} {fd : FuncData} {N ps : List Str} {k : Nat}
theorem slots_entry {K : PySem.W.Frag} {G : Hp} {as : List Addr} {vs : List V} {es : List E} (h : VEs K G as vs es) (N : List Str) {i : Nat} {e : E} (q : (es.map some ++ List.replicate (N.length - es.length) none)[i]? = some (some e)) : ∃ v, (L2.start N vs)[i]? = some (some v) ∧ VE K G as v e := by
  unfold L2.start
  by_cases hi : i < es.length
  · rw [List.getElem?_append_left (by rw [List.length_map]; exact hi), List.getElem?_map] at q
    cases e1 : es[i]? with
    | none => rw [e1] at q; cases q
    | some e2 =>
      rw [e1] at q
      cases q
      obtain ⟨v, h1, h2⟩ := h.get' e1
      refine ⟨v, ?_, h2⟩
      rw [List.getElem?_append_left (by rw [List.length_map, Paired.length h]; exact hi), List.getElem?_map, h1]
      rfl
  · rw [List.getElem?_append_right (by rw [List.length_map]; omega), List.getElem?_replicate] at q
    split at q <;> cases q
theorem fn_P {R : RP} (F : Fun K x qual st f fd) (S : FnScope N ps (defScope st)) (hlen : ∀ ds post, R ds post → ds.length = ps.length)
    (body : ∀ (X : Cx) (F : Fr) (ds : List D) (post : Rt → Prop), XIs X P w K mg base N (defScope st) k → (∀ y, X.fn y = true) → X.H_0 = F.H0 → R ds post → JSs X F (defBody st) (entry N (ds.map .d) [] 0) { nx := fun _ => post (.dat .non), rt := RtE post }) :
    FnOk P w K mg base CX0 (k + 1) f fd ps (spP K R) := by
  refine F.ok S (fun vs H Q E h => ?_) fun cdv A outer s H vs Q Ex hr h => ?_
  · obtain ⟨G, ds, _, r, hR⟩ := h
    rw [r.length]; exact hlen ds _ hR
  · obtain ⟨G, ds, sg, r, hR⟩ := h
    refine ⟨_, pss_sem _ _, ?_⟩
    have ve : VEs K G [] vs (ds.map .d) := VEs.ofReps r
    refine body _ ⟨G, H, []⟩ ds _ ⟨rfl, rfl, rfl, rfl, rfl, rfl, rfl, rfl, S.nd, rfl, hr⟩ (fun _ => rfl) rfl hR [] G H _ _ ?_ ?_
    · refine ⟨sg, Same.refl _, fun _ h _ => h, fun _ _ h _ => h, rfl, List.prefix_refl _, List.nodup_nil, fun k a kd es h => by simp at h, fun a h => by simp at h, fun a h => by simp at h, fun k kd es h => ?_, fun i e h => slots_entry ve N h, ?_, rfl⟩
      · have h : ([] : List Cell)[k]? = some (.nd kd es) := h
        simp at h
      · show (((ds.map E.d).map some) ++ List.replicate (N.length - (ds.map E.d).length) none).length = (L2.start N vs).length
        unfold L2.start
        simp [r.length]
    · have fin : ∀ {as' : List Addr} {G' H' : Hp} {σ' : L2.St} {s' : DL.S}, Cz (cxOf CX0 P w K mg base N qual (defScope st) f cdv A outer s H Ex).nox ⟨G, H, []⟩ as' G' H' σ' s' → Same H H' := fun {as' G' H' σ' s'} c b o q => c.frame b o q (by simp)
      refine ⟨fun as' G' H' σ' s' c x q => q .non G' H' (fin c) c.base c.sub c.new .non, fun v as' G' H' σ' e' s' c x ve q => ?_, fun _ _ _ _ _ _ _ q => q.elim, fun _ _ _ _ _ _ _ q => q.elim⟩
      cases e' with
      | d y => exact q v G' H' (fin c) c.base c.sub c.new ve
      | r j =>
        obtain ⟨kd, es, ds', q1, q2, q3, q4⟩ := q
        rw [nth_eq] at q1
        obtain ⟨a, h1, h2⟩ := ve
        obtain ⟨a', ws, g1, g2, g3⟩ := c.cells j _ _ q1
        rw [h1] at g1
        cases g1
        rw [dsOf_eq q2] at g3
        exact q4 v G' H' (fin c) c.base c.sub c.new ⟨a, ws, h2, (c.fresh a (List.mem_of_getElem? h1)).resolve_left (by simp), c.own j a _ _ h1 q1, g2, g3.reps⟩
theorem fn_C {R : RC1} (F : Fun K x qual st f fd) (S : FnScope N ps (defScope st)) (hlen : ∀ kd cds ds post, R kd cds ds post → ds.length + 1 = ps.length)
    (body : ∀ (X : Cx) (F : Fr) (kd : Kd) (cds ds : List D) (post : Rt → Kd → List D → Prop), XIs X P w K mg base N (defScope st) k → (∀ y, X.fn y = true) → X.H_0 = F.H0 → R kd cds ds post → JSs X F (defBody st) (entry N (.r 0 :: ds.map .d) [.nd kd (cds.map .d)] 1)
      { nx := fun s => ∃ kd' es' cds', nth s.ce 0 = some (.nd kd' es') ∧ dsOf es' = some cds' ∧ post (.dat .non) kd' cds', rt := fun e s => ∃ kd' es' cds', nth s.ce 0 = some (.nd kd' es') ∧ dsOf es' = some cds' ∧ RtE (fun r => post r kd' cds') e s }) :
    FnOk P w K mg base CX0 (k + 1) f fd ps (spC K R) := by
  refine F.ok S (fun vs H Q E h => ?_) fun cdv A outer s H vs Q Ex hr h => ?_
  · obtain ⟨a, rest, cvs, kd, cds, ds, G, rfl, _, _, _, _, r, hR⟩ := h
    rw [List.length_cons, r.length]; exact hlen _ _ ds _ hR
  · obtain ⟨a, rest, cvs, kd, cds, ds, G, rfl, sg, ga, ca, rc, r, hR⟩ := h
    refine ⟨_, pss_sem _ _, ?_⟩
    have ve : VEs K G [a] (.ref a :: rest) (.r 0 :: ds.map .d) := .cons ⟨a, rfl, rfl⟩ (VEs.ofReps r)
    refine body _ ⟨G, H, [a]⟩ kd cds ds _ ⟨rfl, rfl, rfl, rfl, rfl, rfl, rfl, rfl, S.nd, rfl, hr⟩ (fun _ => rfl) rfl hR [a] G H _ _ ?_ ?_
    · refine ⟨sg, Same.refl _, fun _ h _ => h, fun _ _ h _ => h, rfl, List.prefix_refl _, by simp, fun k b kd es h h2 => ?_, fun b h => .inl h, fun b h => ?_, fun k kd' es h => ?_, fun i e h => slots_entry ve N h, ?_, rfl⟩
      · have hb : b = a := by
          have := List.mem_of_getElem? h
          simpa using this
        rw [hb]; exact ga
      · have hb : b = a := by simpa using h
        obtain ⟨o, ho⟩ := ca.some
        rw [hb, ho]
        exact fun z => by cases z
      · have h : ([Cell.nd kd (cds.map .d)])[k]? = some (.nd kd' es) := h
        cases k with
        | zero =>
          cases h
          exact ⟨a, cvs, rfl, ca, VEs.ofReps rc⟩
        | succ k => simp at h
      · show (((E.r 0 :: ds.map E.d).map some) ++ List.replicate (N.length - (E.r 0 :: ds.map E.d).length) none).length = (L2.start N (.ref a :: rest)).length
        unfold L2.start
        simp [r.length]
    · have fin : ∀ {as' : List Addr} {G' H' : Hp} {σ' : L2.St} {s' : DL.S}, Cz (cxOf CX0 P w K mg base N qual (defScope st) f cdv A outer s H Ex).nox ⟨G, H, [a]⟩ as' G' H' σ' s' → ∀ b o, b ≠ a → H b = some o → H' b = some o := fun {as' G' H' σ' s'} c b o hb q => c.frame b o q (by simpa using hb)
      have cell : ∀ {as' : List Addr} {G' H' : Hp} {σ' : L2.St} {s' : DL.S} {kd' : Kd} {es' : List E} {cds' : List D}, Cz (cxOf CX0 P w K mg base N qual (defScope st) f cdv A outer s H Ex).nox ⟨G, H, [a]⟩ as' G' H' σ' s' → nth s'.ce 0 = some (.nd kd' es') → dsOf es' = some cds' →
          ∃ cvs', CellAt H' a cvs' kd' ∧ Reps K G' cvs' cds' := fun {as' G' H' σ' s' kd' es' cds'} c q1 q2 => by
        rw [nth_eq] at q1
        obtain ⟨b, ws, g1, g2, g3⟩ := c.cells 0 _ _ q1
        have : as'[0]? = some a := pre_get c.pre (k := 0) (a := a) rfl
        rw [this] at g1
        cases g1
        rw [dsOf_eq q2] at g3
        exact ⟨ws, g2, g3.reps⟩
      refine ⟨fun as' G' H' σ' s' c x ⟨kd', es', cds', q1, q2, q⟩ => ?_, fun v as' G' H' σ' e' s' c x ve ⟨kd', es', cds', q1, q2, q⟩ => ?_, fun _ _ _ _ _ _ _ q => q.elim, fun _ _ _ _ _ _ _ q => q.elim⟩
      · obtain ⟨cvs', y1, y2⟩ := cell c q1 q2
        exact q .non G' H' cvs' (fin c) c.base c.sub c.new y1 y2 .non
      · obtain ⟨cvs', y1, y2⟩ := cell c q1 q2
        cases e' with
        | d y => exact q v G' H' cvs' (fin c) c.base c.sub c.new y1 y2 ve
        | r j =>
          obtain ⟨kd, es, ds', q1, q2, q3, q4⟩ := q
          rw [nth_eq] at q1
          obtain ⟨b, h1, h2⟩ := ve
          obtain ⟨b', ws, g1, g2, g3⟩ := c.cells j _ _ q1
          rw [h1] at g1
          cases g1
          rw [dsOf_eq q2] at g3
          refine q4 v G' H' cvs' (fin c) c.base c.sub c.new y1 y2 ⟨b, ws, h2, (c.fresh b (List.mem_of_getElem? h1)).resolve_left fun z => ?_, c.own j b _ _ h1 q1, g2, g3.reps⟩
          have hb : b = a := by simpa using z
          subst hb
          have w0 : as'[0]? = some b := pre_get c.pre (k := 0) (a := b) rfl
          obtain ⟨l1, e1⟩ := List.getElem?_eq_some_iff.mp h1
          obtain ⟨l2, e2⟩ := List.getElem?_eq_some_iff.mp w0
          have := (List.getElem_inj c.nd).mp (e1.trans e2.symm)
          have har := c.har
          have : s'.ar = 1 := har.symm
          omega
end
/-! ### calls -/
/-! immutable data -/
mutual
def D.imm : D → Bool
  | .nd .tup ds => D.imms ds
  | .nd .lst _ => false
  | .nd (.dct _) _ => false
  | .nd (.ins _ _) _ => false
  | .non => true | .bl _ => true | .int _ => true | .str _ => true
def D.imms : List D → Bool
  | [] => true
  | d :: ds => D.imm d && D.imms ds
end
def S.view (s : S) : E → Option D
  | .d x => some x
  | .r k => match nth s.ce k with
    | some (.nd .lst es) => (dsOf es).map (.nd .lst)
    | some (.nd (.dct ks) es) => (dsOf es).map (.nd (.dct ks))
    | _ => none
def S.views (s : S) : List E → Option (List D)
  | [] => some []
  | e :: es => match s.view e, s.views es with
    | some d, some ds => some (d :: ds)
    | _, _ => none
variable {X : Cx} {F : Fr} {s : S}
section
variable {e a b c : Expr} {es rest : List Expr} {Φ : E → S → Prop} {pos p p2 : Pos} {x : Str} {k B : Nat}
def RtΦ (Φ : E → S → Prop) (s : S) : Rt → Prop
  | .dat x => Φ (.d x) s
  | .new kd ds => Φ (.r s.ce.length) (s.push kd (ds.map .d))
theorem rtΦ_dat {d : D} (h : Φ (.d d) s) : RtΦ Φ s (.dat d) := h
theorem rtΦ_new {kd : Kd} {ds : List D} (h : Φ (.r s.ce.length) (s.push kd (ds.map .d))) : RtΦ Φ s (.new kd ds) := h
theorem rtE_d {post : Rt → Prop} {d : D} (h : post (.dat d)) : RtE post (.d d) s := h
theorem Cz.call {as : List Addr} {G H G' H' : Hp} {σ : L2.St} (c : Cz X F as G H σ s) (h1 : Same H H') (h2 : Same G G') (h3 : Same G' H') (h4 : ∀ b, G b = none → H b ≠ none → G' b = none) : Cz X F as G' H' σ s := by
  refine ⟨h3, c.base.trans h2, fun b q1 q2 => ?_, fun b o q1 q2 => h1 b o (c.frame b o q1 q2), c.len, c.pre, c.nd, fun k a kd es q1 q2 => ?_, c.fresh, fun a ha z => ?_, fun k kd es q => ?_, fun i e q => ?_, c.slen, c.har⟩
  · refine h4 b (c.new b q1 q2) fun z => ?_
    cases q : F.H0 b with
    | none => exact q2 q
    | some o =>
      by_cases hA : b ∈ F.A0
      · exact c.there b (c.pre.subset hA) z
      · have := c.frame b o q hA
        rw [z] at this; cases this
  · exact h4 a (c.own k a kd es q1 q2) (c.there a (List.mem_of_getElem? q1))
  · cases q : H a with
    | none => exact c.there a ha q
    | some o => rw [h1 a o q] at z; cases z
  · obtain ⟨a, vs, w1, w2, w3⟩ := c.cells k kd es q
    exact ⟨a, vs, w1, w2.keep fun o q => h1 a o q, w3.mono (List.prefix_refl _) h2⟩
  · obtain ⟨v, w1, w2⟩ := c.slots i e q
    exact ⟨v, w1, w2.mono (List.prefix_refl _) h2⟩
/-- a new owned object that a callee has made -/
theorem Cz.grow {as : List Addr} {G H : Hp} {σ : L2.St} (c : Cz X F as G H σ s) {a : Addr} {vs : List V} {kd : Kd} {es : List E} (h1 : G a = none) (h2 : a ∉ as) (h0 : F.H0 a = none) (h3 : CellAt H a vs kd) (h4 : VEs X.K G as vs es) : Cz X F (as ++ [a]) G H σ (s.push kd es) := by
  have pr : as <+: as ++ [a] := pre_snoc
  refine ⟨c.sub, c.base, c.new, c.frame, ?_, c.pre.trans pr, ?_, fun k b kd' es' q1 q2 => ?_, fun b hb => ?_, fun b hb => ?_, fun k kd' es' q => ?_, fun i e q => ?_, c.slen, c.har⟩
  · show (as ++ [a]).length = (s.ce ++ [Cell.nd kd es]).length
    rw [List.length_append, List.length_append, c.len]; rfl
  · rw [List.nodup_append]
    exact ⟨c.nd, by simp, fun b hb d hd => by
      have : d = a := by simpa using hd
      subst this
      exact fun z => h2 (z ▸ hb)⟩
  · have q2 : (s.ce ++ [Cell.nd kd es])[k]? = some (.nd kd' es') := q2
    by_cases hk : k < as.length
    · rw [List.getElem?_append_left hk] at q1
      rw [List.getElem?_append_left (by rw [← c.len]; exact hk)] at q2
      exact c.own k b _ _ q1 q2
    · rw [List.getElem?_append_right (by omega)] at q1
      have : b = a := by simpa using List.mem_of_getElem? q1
      rw [this]; exact h1
  · rcases List.mem_append.mp hb with hb | hb
    · exact c.fresh b hb
    · have : b = a := by simpa using hb
      rw [this]; exact .inr h0
  · rcases List.mem_append.mp hb with hb | hb
    · exact c.there b hb
    · have : b = a := by simpa using hb
      rw [this]
      obtain ⟨o, ho⟩ := h3.some
      rw [ho]; exact fun z => by cases z
  · have q : (s.ce ++ [Cell.nd kd es])[k]? = some (.nd kd' es') := q
    by_cases hk : k < as.length
    · rw [List.getElem?_append_left (by rw [← c.len]; exact hk)] at q
      obtain ⟨b, ws, w1, w2, w3⟩ := c.cells k _ _ q
      exact ⟨b, ws, pre_get pr w1, w2, w3.mono pr (Same.refl _)⟩
    · rw [List.getElem?_append_right (by rw [← c.len]; omega)] at q
      have l := (List.getElem?_eq_some_iff.mp q).1
      have hk0 : k - s.ce.length = 0 := by simp at l; exact l
      rw [hk0] at q
      cases q
      have hke : k = as.length := by have := c.len; omega
      exact ⟨a, vs, by rw [hke, List.getElem?_append_right (Nat.le_refl _)]; simp, h3, h4.mono pr (Same.refl _)⟩
  · obtain ⟨v, w1, w2⟩ := c.slots i e q
    exact ⟨v, w1, w2.mono pr (Same.refl _)⟩
theorem je_callP {R : RP} (cb : CbP X x k R) (bx : Bx X B) (hB : k ≤ B)
    (h : JA X F (a :: es) s fun vs s1 => ∃ ds, dsOf vs = some ds ∧ R ds (RtΦ Φ s1)) (hdb : (x == ("__debug__" : Str)) = false := by decide) (he : starEach (a :: es) X.env = (false, eval a X.env) :: starEach es X.env := by rfl)
    (hpl : (backTo pos (starEach es X.env)).any (·.1) = false := by rfl) : JE X F (.Call (.Name x p) (a :: es) [] pos) s Φ := by
  obtain ⟨f, fd, ps, h1, h2, h3, h4⟩ := cb.ex
  refine je_of (pe_call h4 (bx.room.mono hB) cb.gl h1 h2 h3 .nil pass0 (pa_sem X _) hdb he hpl) fun as G H σ Q c kk => h as G H σ _ c fun vs as1 G1 H1 es1 s1 c1 x1 ves ⟨ds, e1, hR⟩ => ?_
  rw [List.append_nil]
  rw [dsOf_eq e1] at ves
  refine ⟨G1, ds, c1.sub, ves.reps, cb.mono ds _ _ (fun r hr v G' H' q1 q2 q3 q4 q5 => ?_) hR⟩
  have c2 := c1.call q1 q2 q3 q4
  have x2 : Ext as1 as1 G1 G' := ⟨List.prefix_refl _, q2⟩
  cases r with
  | dat y => exact kk v as1 G' H' (.d y) s1 c2 (x1.trans x2) q5 hr
  | new kd ds' =>
    obtain ⟨b, ws, rfl, w1, w2, w3, w4⟩ := q5
    have c3 := c2.grow (kd := kd) (es := ds'.map .d) w2 (c1.notin w1) (c1.h0none w1) w3 (VEs.ofReps w4)
    exact kk _ _ G' H' (.r s1.ce.length) _ c3 ((x1.trans x2).trans ⟨pre_snoc, Same.refl _⟩) ⟨b, by rw [← c1.len, List.getElem?_append_right (Nat.le_refl _)]; simp, rfl⟩ hr
theorem je_callC {R : RC1} (cb : CbC X x k R) (bx : Bx X B) (hB : k ≤ B)
    (h : JA X F (a :: es) s fun vs s1 => ∃ j rest ds es0 cds, vs = .r j :: rest ∧ dsOf rest = some ds ∧ nth s1.ce j = some (.nd .lst es0) ∧ dsOf es0 = some cds ∧ R .lst cds ds fun r kd' cds' => RtΦ Φ (s1.put j kd' (cds'.map .d)) r) (hdb : (x == ("__debug__" : Str)) = false := by decide)
    (he : starEach (a :: es) X.env = (false, eval a X.env) :: starEach es X.env := by rfl) (hpl : (backTo pos (starEach es X.env)).any (·.1) = false := by rfl) : JE X F (.Call (.Name x p) (a :: es) [] pos) s Φ := by
  obtain ⟨f, fd, ps, h1, h2, h3, h4⟩ := cb.ex
  refine je_of (pe_call h4 (bx.room.mono hB) cb.gl h1 h2 h3 .nil pass0 (pa_sem X _) hdb he hpl) fun as G H σ Q c kk => h as G H σ _ c fun vs as1 G1 H1 es1 s1 c1 x1 ves ⟨j, rest, ds, es0, cds, e0, e1, e2, e3, hR⟩ => ?_
  rw [List.append_nil]
  subst e0
  rw [dsOf_eq e1] at ves
  rw [nth_eq] at e2
  cases ves with
  | cons v1 v2 =>
    obtain ⟨a, ha, rfl⟩ := v1
    obtain ⟨a', cvs, g1, g2, g3⟩ := c1.cells j _ _ e2
    rw [ha] at g1
    cases g1
    rw [dsOf_eq e3] at g3
    have ga := c1.own j a _ _ ha e2
    refine ⟨a, _, cvs, .lst, cds, ds, G1, rfl, c1.sub, ga, g2, g3.reps, (VEs.reps v2), cb.mono _ _ _ _ _ (fun r kd' cds' hr v G' H' cvs' q1 q2 q3 q4 q5 q6 q7 => ?_) hR⟩
    -- the state behind: H' is H'' with a written, H'' what keeps all
    have am := List.mem_of_getElem? ha
    have gn' : G' a = none := q4 a ga (c1.there a am)
    obtain ⟨o', ho'⟩ := q5.some
    have inj : ∀ {i : Nat} {b : Addr}, as1[i]? = some b → b = a → i = j := fun {i b} q e => by
      subst e
      obtain ⟨l1, e1⟩ := List.getElem?_eq_some_iff.mp q
      obtain ⟨l2, e2⟩ := List.getElem?_eq_some_iff.mp ha
      exact (List.getElem_inj c1.nd).mp (e1.trans e2.symm)
    have g2' : H1 a = some (.lst cvs) := g2
    have hsame : Same H1 (upd H' a (.lst cvs)) := fun b o q => by
      by_cases hb : b = a
      · subst hb; rw [upd_same, ← g2', q]
      · rw [upd_ne hb]; exact q1 b o hb q
    have c2 : Cz X F as1 G' (upd H' a (.lst cvs)) σ s1 := c1.call hsame q2 (fun b o q => by
      have hb : b ≠ a := fun z => by rw [z, gn'] at q; cases q
      rw [upd_ne hb]; exact q3 b o q) q4
    have eH : upd (upd H' a (.lst cvs)) a o' = H' := by
      rw [upd_upd]
      funext b
      unfold upd
      by_cases hb : b = a
      · rw [if_pos hb, hb, ho']
      · rw [if_neg hb]
    have c3 : Cz X F as1 G' H' σ (s1.put j kd' (cds'.map .d)) := by
      have := c2.put (kd := kd') (es := cds'.map .d) (vs := cvs') (o := o') e2 ha (by rw [eH]; exact q5) (VEs.ofReps q6)
      rw [eH] at this
      exact this
    have x2 : Ext as1 as1 G1 G' := ⟨List.prefix_refl _, q2⟩
    cases r with
    | dat y => exact kk v as1 G' H' (.d y) _ c3 (x1.trans x2) q7 hr
    | new kd2 ds' =>
      obtain ⟨b, ws, rfl, w1, w2, w3, w4⟩ := q7
      have c4 := c3.grow (kd := kd2) (es := ds'.map .d) w2 (c1.notin w1) (c1.h0none w1) w3 (VEs.ofReps w4)
      refine kk _ _ G' H' (.r (s1.put j kd' (cds'.map .d)).ce.length) _ c4 ((x1.trans x2).trans ⟨pre_snoc, Same.refl _⟩) ⟨b, ?_, rfl⟩ hr
      have hl : (s1.put j kd' (cds'.map .d)).ce.length = as1.length := by
        show (setN s1.ce j _).length = _
        rw [setN_eq, List.length_set, c1.len]
      rw [hl, List.getElem?_append_right (Nat.le_refl _)]
      simp
/-! borrowed cells -/
theorem imm_keep {K : PySem.W.Frag} {G G2 : Hp} (ht : ∀ a vs, Rd G a (.tup vs) → Rd G2 a (.tup vs)) : (∀ (d : D) (v : V), Rep K G v d → d.imm = true → Rep K G2 v d) := by
  have main : ∀ n : Nat, (∀ (d : D) (v : V), sizeOf d < n → Rep K G v d → d.imm = true → Rep K G2 v d) ∧ (∀ (ds : List D) (vs : List V), sizeOf ds < n → Reps K G vs ds → D.imms ds = true → Reps K G2 vs ds) := by
    intro n
    induction n with
    | zero => exact ⟨fun _ _ h => absurd h (Nat.not_lt_zero _), fun _ _ h => absurd h (Nat.not_lt_zero _)⟩
    | succ n ih =>
      refine ⟨fun d v hs h hi => ?_, fun ds vs hs h hi => ?_⟩
      · cases h with
        | non => exact .non
        | bl b => exact .bl b
        | int i => exact .int i
        | str x => exact .str x
        | @nd a ws k es nd r =>
          cases k with
          | tup =>
            have hi' : D.imms es = true := by simpa [D.imm] using hi
            refine .nd ?_ (ih.2 es ws (by simp at hs; omega) r hi')
            rcases nd with h | h
            · exact .inl (ht _ _ h)
            · exact .inr h
          | _ => simp [D.imm] at hi
      · cases h with
        | nil => exact .nil
        | @cons v d ws es h t =>
          simp [D.imms] at hi
          exact .cons (ih.1 d v (by simp at hs; omega) h hi.1) (ih.2 es ws (by simp at hs; omega) t hi.2)
  exact fun d v h hi => (main (sizeOf d + 1)).1 d v (Nat.lt_succ_self _) h hi
theorem imm_keeps {K : PySem.W.Frag} {G G2 : Hp} (ht : ∀ a vs, Rd G a (.tup vs) → Rd G2 a (.tup vs)) : ∀ (ds : List D) (vs : List V), Reps K G vs ds → D.imms ds = true → Reps K G2 vs ds
  | _, _, .nil, _ => .nil
  | _, _, .cons h t, hi => by
    simp [D.imms] at hi
    exact .cons (imm_keep ht _ _ h hi.1) (imm_keeps ht _ _ t hi.2)
def Rt.imm : Rt → Bool
  | .dat x => x.imm
  | .new _ ds => D.imms ds
/-- the heap in which the owned cells are read, not written -/
def Alive (s : S) (as : List Addr) (b : Addr) : Prop := ∃ (k : Nat) (kd : Kd) (es : List E), as[k]? = some b ∧ s.ce[k]? = some (.nd kd es)
open Classical in
noncomputable def lend (s : S) (as : List Addr) (G H : Hp) : Hp := fun b => match G b with
  | some o => some o
  | none => if Alive s as b then H b else none
theorem lend_sub {as : List Addr} {G H : Hp} : Same G (lend s as G H) := fun b o h => by unfold lend; rw [h]
theorem lend_yes {as : List Addr} {G H : Hp} {b : Addr} (h : G b = none) (a : Alive s as b) : lend s as G H b = H b := by unfold lend; rw [h]; exact if_pos a
theorem lend_no {as : List Addr} {G H : Hp} {b : Addr} (h : G b = none) (a : ¬ Alive s as b) : lend s as G H b = none := by unfold lend; rw [h]; exact if_neg a
theorem lend_in {as : List Addr} {G H : Hp} (e : Same G H) : Same (lend s as G H) H := fun b o h => by
  cases q : G b with
  | some u => rw [lend_sub b u q] at h; rw [e b u q]; exact h
  | none =>
    by_cases a : Alive s as b
    · rw [lend_yes q a] at h; exact h
    · rw [lend_no q a] at h; cases h
theorem Cz.view {as : List Addr} {G H : Hp} {σ : L2.St} (c : Cz X F as G H σ s) {v : V} {e : E} {d : D} (ve : VE X.K G as v e) (h : s.view e = some d) : Rep X.K (lend s as G H) v d := by
  cases e with
  | d x => cases h; exact Rep.mono lend_sub ve
  | r k =>
    obtain ⟨a, h1, rfl⟩ := ve
    have h : (match nth s.ce k with
      | some (.nd .lst es) => (dsOf es).map (.nd .lst)
      | some (.nd (.dct ks) es) => (dsOf es).map (.nd (.dct ks))
      | _ => none) = some d := h
    rw [nth_eq] at h
    have key : ∀ {kd : Kd} {es : List E} {ds : List D}, s.ce[k]? = some (.nd kd es) → dsOf es = some ds → Rep X.K (lend s as G H) (.ref a) (.nd kd ds) := fun {kd es ds} q1 q2 => by
      obtain ⟨b, vs, g1, g2, g3⟩ := c.cells k _ _ q1
      rw [h1] at g1
      cases g1
      rw [dsOf_eq q2] at g3
      have la : ∀ o, H a = some o → lend s as G H a = some o := fun o q => by
        rw [lend_yes (c.own k a _ _ h1 q1) ⟨k, _, _, h1, q1⟩]
        exact q
      have : CellAt (lend s as G H) a vs kd := g2.keep la
      exact .nd this.node (g3.reps.mono lend_sub)
    cases hc : s.ce[k]? with
    | none => rw [hc] at h; cases h
    | some cl =>
      rw [hc] at h
      cases cl with
      | gone => cases h
      | nd kd es =>
        cases kd with
        | lst =>
          cases q : dsOf es with
          | none => simp [q] at h
          | some ds => simp [q] at h; subst h; exact key hc q
        | dct ks =>
          cases q : dsOf es with
          | none => simp [q] at h
          | some ds => simp [q] at h; subst h; exact key hc q
        | tup => cases h
        | ins C fs => cases h
theorem Cz.views {as : List Addr} {G H : Hp} {σ : L2.St} (c : Cz X F as G H σ s) : ∀ {vs : List V} {es : List E} {ds : List D}, VEs X.K G as vs es → s.views es = some ds → Reps X.K (lend s as G H) vs ds
  | _, _, ds, .nil, h => by cases h; exact .nil
  | _, e :: es, ds, .cons h t, q => by
    unfold S.views at q
    cases q1 : s.view e with
    | none => rw [q1] at q; simp at q
    | some d =>
      cases q2 : s.views es with
      | none => rw [q1, q2] at q; simp at q
      | some ds' =>
        rw [q1, q2] at q
        simp at q
        subst q
        exact .cons (c.view h q1) (c.views t q2)
theorem je_callB {R : RP} (cb : CbP X x k R) (bx : Bx X B) (hB : k ≤ B)
    (h : JA X F (a :: es) s fun vs s1 => ∃ ds, s1.views vs = some ds ∧ R ds fun r => r.imm = true ∧ RtΦ Φ s1 r) (hdb : (x == ("__debug__" : Str)) = false := by decide) (he : starEach (a :: es) X.env = (false, eval a X.env) :: starEach es X.env := by rfl)
    (hpl : (backTo pos (starEach es X.env)).any (·.1) = false := by rfl) : JE X F (.Call (.Name x p) (a :: es) [] pos) s Φ := by
  obtain ⟨f, fd, ps, h1, h2, h3, h4⟩ := cb.ex
  refine je_of (pe_call h4 (bx.room.mono hB) cb.gl h1 h2 h3 .nil pass0 (pa_sem X _) hdb he hpl) fun as G H σ Q c kk => h as G H σ _ c fun vs as1 G1 H1 es1 s1 c1 x1 ves ⟨ds, e1, hR⟩ => ?_
  rw [List.append_nil]
  refine ⟨lend s1 as1 G1 H1, ds, lend_in c1.sub, c1.views ves e1, cb.mono ds _ _ (fun r ⟨hi, hr⟩ v G' H' q1 q2 q3 q4 q5 => ?_) hR⟩
  -- what is frozen behind: G' without the owned
  obtain ⟨G2, hG2, hG3⟩ : ∃ G2 : Hp, (∀ b, Alive s1 as1 b → G2 b = none) ∧ ∀ b, ¬ Alive s1 as1 b → G2 b = G' b := by
    classical
    exact ⟨fun b => if Alive s1 as1 b then none else G' b, fun b h => if_pos h, fun b h => if_neg h⟩
  have ga : ∀ {b : Addr}, Alive s1 as1 b → G1 b = none := fun {b} ⟨k, kd, es, w1, w2⟩ => c1.own k b _ _ w1 w2
  have s1' : Same G1 G2 := fun b o q => by
    rw [hG3 b (fun z => by rw [ga z] at q; cases q)]
    exact q2 b o (lend_sub b o q)
  have s2' : Same G2 H' := fun b o q => by
    by_cases hb : Alive s1 as1 b
    · rw [hG2 b hb] at q; cases q
    · rw [hG3 b hb] at q; exact q3 b o q
  have s4' : ∀ b, G1 b = none → H1 b ≠ none → G2 b = none := fun b w1 w2 => by
    by_cases hb : Alive s1 as1 b
    · exact hG2 b hb
    · rw [hG3 b hb]
      exact q4 b (lend_no w1 hb) w2
  have c2 := c1.call q1 s1' s2' s4'
  have x2 : Ext as1 as1 G1 G2 := ⟨List.prefix_refl _, s1'⟩
  -- a tuple is no owned cell
  have tups : ∀ a vs, Rd G' a (.tup vs) → Rd G2 a (.tup vs) := fun b ws hb => by
    have nb : ¬ Alive s1 as1 b := fun z => by
      have w0 := ga z
      obtain ⟨j, kd, es, hj, hcl⟩ := z
      obtain ⟨b', us, g1, g2, g3⟩ := c1.cells j _ _ hcl
      rw [hj] at g1
      cases g1
      obtain ⟨o, ho⟩ := g2.some
      have hG' : G' b = some o := q2 b o (by rw [lend_yes w0 ⟨j, kd, es, hj, hcl⟩]; exact ho)
      have g2' : CellAt G' b us kd := g2.keep fun u q => by rw [ho] at q; cases q; exact hG'
      rcases hb with hb | ⟨oo, hb⟩
      · cases kd with
        | tup => exact g2'
        | lst => have : G' b = some (.lst us) := g2'; rw [hb] at this; cases this
        | dct ks => obtain ⟨_, _, _, this⟩ := g2'; rw [hb] at this; cases this
        | ins C fs => obtain ⟨_, _, this⟩ := g2'; rw [hb] at this; cases this
      · cases kd with
        | tup => exact g2'
        | lst => have : G' b = some (.lst us) := g2'; rw [hb] at this; cases this
        | dct ks => obtain ⟨_, _, _, this⟩ := g2'; rw [hb] at this; cases this
        | ins C fs => obtain ⟨_, _, this⟩ := g2'; rw [hb] at this; cases this
    rcases hb with hb | ⟨oo, hb⟩
    · exact .inl (by rw [hG3 b nb]; exact hb)
    · exact .inr ⟨oo, by rw [hG3 b nb]; exact hb⟩
  cases r with
  | dat y => exact kk v as1 G2 H' (.d y) s1 c2 (x1.trans x2) (imm_keep tups _ _ q5 hi) hr
  | new kd ds' =>
    obtain ⟨b, ws, rfl, w1, w2, w3, w4⟩ := q5
    have gb : G2 b = none := by
      by_cases hb : Alive s1 as1 b
      · exact hG2 b hb
      · rw [hG3 b hb]; exact w2
    have c3 := c2.grow (kd := kd) (es := ds'.map .d) gb (c1.notin w1) (c1.h0none w1) w3 (VEs.ofReps (imm_keeps tups _ _ w4 hi))
    exact kk _ _ G2 H' (.r s1.ce.length) _ c3 ((x1.trans x2).trans ⟨pre_snoc, Same.refl _⟩) ⟨b, by rw [← c1.len, List.getElem?_append_right (Nat.le_refl _)]; simp, rfl⟩ hr
end
end DL
namespace DL
open PySem PySem.Spec PyProof.Rows L2
variable {X : Cx} {F : Fr} {s : S}
/-! ### what is walked -/
def semI (X : Cx) (tg iter : Expr) : TI := fun σ H R => ∀ pins st, Inv X pins σ H st → wpAny (model X.prog X.w) X.A (eval iter X.env) (fun v s1 => wpAny (model X.prog X.w) X.A (pyIter v) (PIE X pins σ tg R) X.xe s1) X.xe st
theorem pi_sem (X : Cx) (tg iter : Expr) : PI X tg iter (semI X tg iter) := ⟨fun pins s σ H R I h => h pins s I⟩
theorem PI.sem {X : Cx} {tg iter : Expr} {t : TI} (h : PI X tg iter t) {σ : L2.St} {H : Hp} {R : It → Hp → Prop} (q : t σ H R) : semI X tg iter σ H R := fun pins s I => h.run pins s σ H R I q
/-- n turns, at the i-th a thing of it i -/
structure ItOk (X : Cx) (F : Fr) (J : It) (n : Nat) (it : Nat → E → Prop) (as : List Addr) (G : Hp) : Prop where
  stop : ∀ as' G' H' σ' s', Cz X F as' G' H' σ' s' → Same G G' → J.stop n H'
  go : ∀ i as' G' H' σ' s', i < n → Cz X F as' G' H' σ' s' → Same G G' → J.go i H'
  yld : ∀ i as' G' H' σ' s' x H2, i < n → Cz X F as' G' H' σ' s' → Same G G' → J.yld i H' x H2 → ∃ G2 e, Cz X F as' G2 H2 σ' s' ∧ (Same G' G2 ∧ ∀ b, H' b ≠ none → G' b = none → G2 b = none) ∧ VE X.K G2 as' x e ∧ it i e
  keep : ∀ i as' G' H' σ' s' x H2, i < n → Cz X F as' G' H' σ' s' → Same G G' → J.yld i H' x H2 → Same H' H2
def JI (X : Cx) (F : Fr) (tg iter : Expr) (s : S) (Θ : Nat → (Nat → E → Prop) → S → Prop) : Prop := ∀ as G H σ (R : It → Hp → Prop), Cz X F as G H σ s →
  (∀ J as1 G1 H1 s1 n it, Cz X F as1 G1 H1 σ s1 → Ext as as1 G G1 → ItOk X F J n it as1 G1 → Θ n it s1 → R J H1) → semI X tg iter σ H R
/-- a whole frozen list, by its items -/
def itL (ds : List D) : Nat → E → Prop := fun i e => ∃ d, ds[i]? = some d ∧ e = .d d
section
variable {e a b c tg iter : Expr} {es rest : List Expr} {body : List Stmt} {P : Po} {pos p : Pos} {x : Str} {k B : Nat} {Θ : Nat → (Nat → E → Prop) → S → Prop}
theorem ji_lst (h : JE X F iter s fun e s1 => ∃ ds, e = .d (.nd .lst ds) ∧ Θ ds.length (itL ds) s1) : JI X F tg iter s Θ := fun as G H σ R c k =>
  PI.sem (pi_list (pe_sem X iter)) (h as G H σ _ c fun v as1 G1 H1 e1 s1 c1 x1 ve ⟨ds, e2, q⟩ => by
    subst e2
    cases ve with
    | @nd a vs _ _ n r =>
      have n : SqL X.K G1 a vs := n
      refine ⟨a, rfl, ⟨vs, (show NodeAt X.K G1 a vs .lst from n).mono c1.sub⟩, k (Itl X.K a) as1 G1 H1 s1 ds.length (itL ds) c1 x1 ?_ q⟩
      have at_ : ∀ {as' : List Addr} {G' H' : Hp} {σ' : L2.St} {s' : S}, Cz X F as' G' H' σ' s' → Same G1 G' → SqL X.K H' a vs := fun c' x => ((show NodeAt X.K G1 a vs .lst from n).mono x).mono c'.sub
      refine ⟨fun as' G' H' σ' s' c' x => ⟨vs, at_ c' x, by rw [r.length]; exact Nat.le_refl _⟩, fun i as' G' H' σ' s' hi c' x => ⟨vs, vs[i]'(by rw [r.length]; exact hi), at_ c' x, List.getElem?_eq_getElem _⟩, fun i as' G' H' σ' s' y H2 hi c' x q => ?_, fun i as' G' H' σ' s' y H2 hi c' x q => (by obtain ⟨rfl, _⟩ := q; exact Same.refl _)⟩
      obtain ⟨rfl, q⟩ := q
      obtain ⟨d, h1, h2⟩ := r.get' (q vs (at_ c' x))
      exact ⟨G', .d d, c', ⟨Same.refl _, fun _ _ h => h⟩, Rep.mono x h2, d, h1, rfl⟩)
theorem ji_tup (h : JE X F iter s fun e s1 => ∃ ds, e = .d (.nd .tup ds) ∧ Θ ds.length (itL ds) s1) : JI X F tg iter s Θ := fun as G H σ R c k =>
  PI.sem (pi_tup (pe_sem X iter)) (h as G H σ _ c fun v as1 G1 H1 e1 s1 c1 x1 ve ⟨ds, e2, q⟩ => by
    subst e2
    cases ve with
    | @nd a vs _ _ n r =>
      have n : SqT X.K G1 a vs := n
      refine ⟨a, rfl, ⟨vs, (show NodeAt X.K G1 a vs .tup from n).mono c1.sub⟩, k (Itt X.K a) as1 G1 H1 s1 ds.length (itL ds) c1 x1 ?_ q⟩
      have at_ : ∀ {as' : List Addr} {G' H' : Hp} {σ' : L2.St} {s' : S}, Cz X F as' G' H' σ' s' → Same G1 G' → SqT X.K H' a vs := fun c' x => ((show NodeAt X.K G1 a vs .tup from n).mono x).mono c'.sub
      refine ⟨fun as' G' H' σ' s' c' x => ⟨vs, at_ c' x, by rw [r.length]; exact Nat.le_refl _⟩, fun i as' G' H' σ' s' hi c' x => ⟨vs, vs[i]'(by rw [r.length]; exact hi), at_ c' x, List.getElem?_eq_getElem _⟩, fun i as' G' H' σ' s' y H2 hi c' x q => ?_, fun i as' G' H' σ' s' y H2 hi c' x q => (by obtain ⟨rfl, _⟩ := q; exact Same.refl _)⟩
      obtain ⟨rfl, q⟩ := q
      obtain ⟨d, h1, h2⟩ := r.get' (q vs (at_ c' x))
      exact ⟨G', .d d, c', ⟨Same.refl _, fun _ _ h => h⟩, Rep.mono x h2, d, h1, rfl⟩)
/-- a frozen dict's keys -/
def kD : Key → D
  | .inl i => .int i
  | .inr x => .str x
theorem rep_kD {K : PySem.W.Frag} {G : Hp} : ∀ (k : Key), Rep K G (kV k) (kD k)
  | .inl i => .int i
  | .inr x => .str x
theorem ji_keys (h : JE X F iter s fun e s1 => ∃ ks ds, e = .d (.nd (.dct ks) ds) ∧ Θ ks.length (itL (ks.map kD)) s1) : JI X F tg iter s Θ := fun as G H σ R c k =>
  PI.sem (pi_keys (pe_sem X iter)) (h as G H σ _ c fun v as1 G1 H1 e1 s1 c1 x1 ve ⟨ks, ds, e2, q⟩ => by
    subst e2
    cases ve with
    | @nd a vs _ _ n r =>
      obtain ⟨n1, n2, od, n3⟩ := n
      have hl : (ks.zip vs).length = ks.length := by rw [List.length_zip, n1, Nat.min_self]
      refine ⟨a, od, rfl, .inl ⟨ks.zip vs, c1.sub _ _ n3, k (Itk a od (ks.zip vs)) as1 G1 H1 s1 ks.length _ c1 x1 ?_ q⟩⟩
      have at_ : ∀ {as' : List Addr} {G' H' : Hp} {σ' : L2.St} {s' : S}, Cz X F as' G' H' σ' s' → Same G1 G' → H' a = some (.frz od (.dK (ks.zip vs))) := fun c' x => c'.sub _ _ (x _ _ n3)
      refine ⟨fun as' G' H' σ' s' c' x => ⟨at_ c' x, by rw [hl]; exact Nat.le_refl _⟩, fun i as' G' H' σ' s' hi c' x => ⟨at_ c' x, by rw [hl]; exact hi⟩, fun i as' G' H' σ' s' y H2 hi c' x q => ?_, fun i as' G' H' σ' s' y H2 hi c' x q => (by obtain ⟨rfl, _⟩ := q; exact Same.refl _)⟩
      obtain ⟨rfl, kk, v, q1, rfl⟩ := q
      refine ⟨G', .d (kD kk), c', ⟨Same.refl _, fun _ _ h => h⟩, rep_kD kk, kD kk, ?_, rfl⟩
      rw [List.getElem?_map, (List.getElem?_zip_eq_some.mp q1).1]
      rfl)
/-- range -/
def itR (lo : Int) : Nat → E → Prop := fun i e => e = .d (.int (lo + i))
theorem itok_range {lo : Int} {n : Nat} {as : List Addr} {G : Hp} : ItOk X F (Itr lo n) n (itR lo) as G :=
  ⟨fun _ _ _ _ _ _ _ => Nat.le_refl _, fun i _ _ _ _ _ hi _ _ => hi, fun i as' G' H' σ' s' x H2 hi c x1 ⟨q1, q2⟩ => ⟨G', .d (.int (lo + i)), by rw [q1]; exact c, ⟨Same.refl _, fun _ _ h => h⟩, by rw [q2]; exact .int _, rfl⟩, fun i as' G' H' σ' s' x H2 hi c x1 ⟨q1, q2⟩ => by rw [q1]; exact Same.refl _⟩
theorem ji_range1 (g : GlB X "range") (h : JE X F a s fun e s1 => ∃ j : Int, e = .d (.int j) ∧ (-(2 ^ 62) ≤ j ∧ j < 2 ^ 62) ∧ Θ j.toNat (itR 0) s1) (ns : NoStar a := by intro _ _; rfl) : JI X F tg (.Call (.Name "range" p) [a] [] pos) s Θ := fun as G H σ R c k =>
  PI.sem (pi_range1 g.gl g.mg (pa_cons (pe_sem X a) pa_nil (ns _ _)) (hs := by rw [ns]; rfl)) (h as G H σ _ c fun v as1 G1 H1 e1 s1 c1 x1 ve ⟨j, e2, ⟨h1, h2⟩, q⟩ => by
    subst e2
    cases ve
    exact ⟨j, rfl, h1, h2, k _ as1 G1 H1 s1 _ _ c1 x1 itok_range q⟩)
theorem ji_range2 (g : GlB X "range") (h : JE X F a s fun e s1 => JE X F b s1 fun e2 s2 => ∃ i j : Int, e = .d (.int i) ∧ e2 = .d (.int j) ∧ (-(2 ^ 62) ≤ i ∧ i < 2 ^ 62 ∧ -(2 ^ 62) ≤ j ∧ j < 2 ^ 62) ∧ Θ (j - i).toNat (itR i) s2) (ns : NoStar a := by intro _ _; rfl) (ns2 : NoStar b := by intro _ _; rfl) :
    JI X F tg (.Call (.Name "range" p) [a, b] [] pos) s Θ := fun as G H σ R c k =>
  PI.sem (pi_range2 g.gl g.mg (pa_cons (pe_sem X a) (pa_cons (pe_sem X b) pa_nil (ns2 _ _)) (ns _ _)) (hs := by rw [ns, ns2]; rfl) (hs2 := by rw [ns2]; rfl)) (h as G H σ _ c fun v as1 G1 H1 e1 s1 c1 x1 ve h1 => h1 as1 G1 H1 σ _ c1 fun v2 as2 G2 H2 e2 s2 c2 x2 ve2 ⟨i, j, q1, q2, ⟨b1, b2, b3, b4⟩, q⟩ => by
    subst q1 q2
    cases ve
    cases ve2
    exact ⟨i, j, rfl, ⟨b1, b2, b3, b4⟩, k _ as2 G2 H2 s2 _ _ c2 (x1.trans x2) itok_range q⟩)
/-- a text's signs -/
def itS (z : Str) : Nat → E → Prop := fun i e => ∃ cp, z.cps[i]? = some cp ∧ e = .d (.str ⟨#[cp]⟩)
theorem ji_str (h : JE X F iter s fun e s1 => ∃ z, e = .d (.str z) ∧ Θ z.cps.size (itS z) s1) : JI X F tg iter s Θ := fun as G H σ R c k =>
  PI.sem (pi_str (pe_sem X iter)) (h as G H σ _ c fun v as1 G1 H1 e1 s1 c1 x1 ve ⟨z, e2, q⟩ => by
    subst e2
    cases ve
    exact ⟨z, rfl, k _ as1 G1 H1 s1 _ _ c1 x1 ⟨fun _ _ _ _ _ _ _ => Nat.le_refl _, fun i _ _ _ _ _ hi _ _ => hi, fun i as' G' H' σ' s' x H2 hi c x1 ⟨q1, cp, q2, q3⟩ => ⟨G', .d (.str ⟨#[cp]⟩), by rw [q1]; exact c, ⟨Same.refl _, fun _ _ h => h⟩, by rw [q3]; exact .str _, cp, q2, rfl⟩, fun i as' G' H' σ' s' x H2 hi c x1 ⟨q1, cp, q2, q3⟩ => by rw [q1]; exact Same.refl _⟩ q⟩)
/-! ### for -/
theorem for_any {J : It} {n : Nat} {g : TG} {tb : TS} {D : Ends} {σ : L2.St} {H : Hp} (Pv : Nat → L2.St → Hp → Prop) (h0 : Pv 0 σ H) (hst : ∀ σ H, Pv n σ H → J.stop n H) (hgo : ∀ i σ H, i < n → Pv i σ H → J.go i H)
    (hs : ∀ i σ H, i < n → Pv i σ H → ∀ x H', J.yld i H x H' → g x σ H' fun σ2 H2 => tb { D with nx := Pv (i + 1), ct := Pv (i + 1), bk := D.nx } σ2 H2) (hd : ∀ σ H, Pv n σ H → D.nx σ H) :
    ∃ W : Nat → Nat → L2.St → Hp → Prop, (∃ m, W 0 m σ H) ∧ ∀ i m σ H, W i m σ H →
      (J.stop i H ∧ D.nx σ H) ∨ (J.go i H ∧ ∃ N : L2.St → Hp → Prop, (∀ σ' H', N σ' H' → ∃ m', m' < m ∧ W (i + 1) m' σ' H') ∧ ∀ x H', J.yld i H x H' → g x σ H' fun σ2 H2 => tb { D with nx := N, ct := N, bk := D.nx } σ2 H2) := by
  refine ⟨fun i m σ H => m = n - i ∧ i ≤ n ∧ Pv i σ H, ⟨n, by simp, Nat.zero_le _, h0⟩, ?_⟩
  rintro i m σ H ⟨rfl, hi, p⟩
  by_cases hlt : i < n
  · exact .inr ⟨hgo i σ H hlt p, Pv (i + 1), fun σ' H' p' => ⟨n - (i + 1), by omega, rfl, hlt, p'⟩, hs i σ H hlt p⟩
  · have e : i = n := by omega
    subst e
    exact .inl ⟨hst σ H p, hd σ H p⟩
/-- one turn: the target is stored, the body runs -/
def Turn1 (X : Cx) (F : Fr) (tg : Expr) (body : List Stmt) (P : Po) (Nx : S → Prop) (v : E) (s : S) : Prop :=
  JG X F tg v s fun s2 => JSs X F body s2 { nx := Nx, ct := Nx, bk := P.nx, rt := P.rt }
theorem js_for {B : Nat} (bx : Bx X B) (In : Nat → S → Prop) (h : JI X F tg iter s fun n it s1 => In 0 s1 ∧ (∀ i v s', i < n → it i v → In i s' → Turn1 X F tg body P (In (i + 1)) v s') ∧ ∀ s', In n s' → P.nx s')
    (hs : ∀ x, foldedSetIterable iter X.env x = pure x := by intro _; rfl) : JS X F (.For tg iter body [] pos) s P := fun as G H σ D c k =>
  PS.sem (ps_for bx.po bx.calm (pi_sem X tg iter) (pg_sem X tg) (pss_sem X body) hs) (h as G H σ _ c fun J as1 G1 H1 s1 n it c1 x1 ok ⟨h0, ht, hd⟩ => by
    refine for_any (fun i σ' H' => ∃ as' G' s', Cz X F as' G' H' σ' s' ∧ Same G1 G' ∧ In i s') ⟨as1, G1, s1, c1, Same.refl _, h0⟩ (fun σ' H' ⟨as', G', s', c', x', _⟩ => ok.stop as' G' H' σ' s' c' x') (fun i σ' H' hi ⟨as', G', s', c', x', _⟩ => ok.go i as' G' H' σ' s' hi c' x')
      (fun i σ' H' hi ⟨as', G', s', c', x', q⟩ v H2 y => ?_) fun σ' H' ⟨as', G', s', c', x', q⟩ => k.nx as' G' H' σ' s' c' (x1.sub.trans x') (hd s' q)
    obtain ⟨G2, e, c2, ⟨x2, _⟩, ve, hv⟩ := ok.yld i as' G' H' σ' s' v H2 hi c' x' y
    have x3 : Same G1 G2 := x'.trans x2
    refine ht i e s' hi hv q as' G2 H2 σ' v _ c2 ve fun as3 G3 H3 σ3 s3 c3 x4 q3 => ?_
    refine q3 as3 G3 H3 σ3 _ c3 ⟨fun as5 G5 H5 σ5 s5 c5 x5 t => ⟨as5, G5, s5, c5, (x3.trans x4.sub).trans x5, t⟩, fun v as5 G5 H5 σ5 e5 s5 c5 x5 ve t => k.rt v as5 G5 H5 σ5 e5 s5 c5 (x1.sub.trans ((x3.trans x4.sub).trans x5)) ve t, fun as5 G5 H5 σ5 s5 c5 x5 t => k.nx as5 G5 H5 σ5 s5 c5 (x1.sub.trans ((x3.trans x4.sub).trans x5)) t,
      fun as5 G5 H5 σ5 s5 c5 x5 t => ⟨as5, G5, s5, c5, (x3.trans x4.sub).trans x5, t⟩⟩)
/-- while -/
theorem js_while {B : Nat} (bx : Bx X B) (W : S → Prop) (μ : S → Nat) (h0 : W s) (h : ∀ s, W s → JT X F c s fun b s2 => if b = true then JSs X F body s2 { nx := fun s3 => W s3 ∧ μ s3 < μ s, ct := fun s3 => W s3 ∧ μ s3 < μ s, bk := P.nx, rt := P.rt } else P.nx s2) :
    JS X F (.While c body [] pos) s P := fun as G H σ D cz k =>
  PS.sem (ps_while bx.po (pt_sem X c) (pss_sem X body)) (by
    refine ⟨fun m σ' H' => ∃ as' G' s', Cz X F as' G' H' σ' s' ∧ Same G G' ∧ W s' ∧ m = μ s', ⟨_, as, G, s, cz, Same.refl _, h0, rfl⟩, ?_⟩
    rintro m σ' H' ⟨as', G', s', c', x', w, rfl⟩
    refine h s' w as' G' H' σ' _ c' fun b as2 G2 H2 s2 c2 x2 q => ?_
    cases b with
    | true =>
      simp only [if_true] at q ⊢
      refine ⟨fun σ3 H3 => ∃ as3 G3 s3, Cz X F as3 G3 H3 σ3 s3 ∧ Same G G3 ∧ W s3 ∧ μ s3 < μ s', fun σ3 H3 ⟨as3, G3, s3, c3, x3, w3, l3⟩ => ⟨_, l3, as3, G3, s3, c3, x3, w3, rfl⟩, ?_⟩
      exact q as2 G2 H2 σ' _ c2 ⟨fun as5 G5 H5 σ5 s5 c5 x5 t => ⟨as5, G5, s5, c5, (x'.trans x2.sub).trans x5, t⟩, fun v as5 G5 H5 σ5 e5 s5 c5 x5 ve t => k.rt v as5 G5 H5 σ5 e5 s5 c5 ((x'.trans x2.sub).trans x5) ve t, fun as5 G5 H5 σ5 s5 c5 x5 t => k.nx as5 G5 H5 σ5 s5 c5 ((x'.trans x2.sub).trans x5) t,
        fun as5 G5 H5 σ5 s5 c5 x5 t => ⟨as5, G5, s5, c5, (x'.trans x2.sub).trans x5, t⟩⟩
    | false => exact k.nx as2 G2 H2 σ' s2 c2 (x'.trans x2.sub) q)
/-- freezing a cell between two statements -/
theorem jss_frz {sts : List Stmt} {k : Nat} {kd : Kd} {es : List E} {ds : List D} (h1 : nth s.ce k = some (.nd kd es)) (h2 : dsOf es = some ds) (h3 : ∀ C fs, kd ≠ .ins C fs) (h4 : s.ar ≤ k) (h : JSs X F sts (s.fz k (.nd kd ds)) P) : JSs X F sts s P := fun as G H σ D c kk => by
  rw [dsOf_eq h2] at h1
  obtain ⟨a, G2, _, x2, c2, _⟩ := c.fz h1 h3 h4
  exact h as G2 H σ D c2 (kk.ext x2)
/-- forgetting: what follows is shown of less -/
def E.ltB (n : Nat) : Option E → Bool
  | some (.r k) => decide (k < n)
  | _ => true
def Cell.ltB (n : Nat) : Cell → Bool
  | .gone => true
  | .nd _ es => es.all (E.lt n)
theorem Cz.weak' {as : List Addr} {G H : Hp} {σ : L2.St} {s' : S} (c : Cz X F as G H σ s) (w : Wk s s') (h1 : s'.sl.all (E.ltB s'.ce.length) = true) (h2 : s'.ce.all (Cell.ltB s'.ce.length) = true) : Cz X F (as.take s'.ce.length) G H σ s' := by
  refine c.weak w (fun i e he => ?_) fun k kd es hk e he => ?_
  · have := List.all_eq_true.mp h1 _ (List.mem_of_getElem? he)
    cases e with
    | d x => rfl
    | r k => exact this
  · have := List.all_eq_true.mp h2 _ (List.mem_of_getElem? hk)
    exact List.all_eq_true.mp this e he
theorem jss_weak {sts : List Stmt} {s' : S} (w : Wk s s') (h1 : s'.sl.all (E.ltB s'.ce.length) = true) (h2 : s'.ce.all (Cell.ltB s'.ce.length) = true) (h : JSs X F sts s' P) : JSs X F sts s P := fun as G H σ D c k =>
  h _ G H σ D (c.weak' w h1 h2) (k.exs (Same.refl _))
/-- .. at the end of a block -/
theorem jss_end {s' : S} (w : Wk s s') (h1 : s'.sl.all (E.ltB s'.ce.length) = true) (h2 : s'.ce.all (Cell.ltB s'.ce.length) = true) (h : P.nx s') : JSs X F [] s P := jss_weak w h1 h2 (jss_nil h)
end
end DL
namespace DL
open PySem PySem.Spec PyProof.Rows L2
variable {X : Cx} {F : Fr} {s : S}
/-! ### comprehensions -/
structure IsBlk (X : Cx) (scope : Scope) (Y : Cx) : Prop where
  ex : ∃ (st : Shared) (H : Hp) (C : Addr) (cl : List (Str × Addr)) (fp : List Addr), Y = X.blk st H scope (compEnvC scope cl C X.env) fp
theorem IsBlk.K {scope : Scope} {Y : Cx} (h : IsBlk X scope Y) : Y.K = X.K := by obtain ⟨_, _, _, _, _, rfl⟩ := h.ex; rfl
theorem IsBlk.is {scope : Scope} {Y : Cx} {P : Program} {w : World} {K : PySem.W.Frag} {mg : Str → Option Value} {base : Heap} {N : List Str} {sc : Scope} {k : Nat} (h : IsBlk X scope Y) (hX : XIs X P w K mg base N sc k) : XIs Y P w K mg base N (relS scope sc) k := by
  obtain ⟨_, _, _, _, _, rfl⟩ := h.ex
  exact ⟨hX.eP, hX.eW, hX.eK, hX.eM, hX.eB, hX.eN, by rw [← hX.eS]; rfl, hX.calm, hX.nd, rfl, hX.room⟩
theorem cz_blk {scope : Scope} {Y : Cx} (h : IsBlk X scope Y) {as : List Addr} {G H : Hp} {σ : L2.St} {s : S} (c : Cz X F as G H σ s) : Cz Y F as G H σ s := by
  obtain ⟨_, _, _, _, _, rfl⟩ := h.ex
  exact ⟨c.sub, c.base, c.new, c.frame, c.len, c.pre, c.nd, c.own, c.fresh, c.there, c.cells, c.slots, c.slen, c.har⟩
theorem cz_ublk {scope : Scope} {Y : Cx} (h : IsBlk X scope Y) {as : List Addr} {G H : Hp} {σ : L2.St} {s : S} (c : Cz Y F as G H σ s) : Cz X F as G H σ s := by
  obtain ⟨_, _, _, _, _, rfl⟩ := h.ex
  exact ⟨c.sub, c.base, c.new, c.frame, c.len, c.pre, c.nd, c.own, c.fresh, c.there, c.cells, c.slots, c.slen, c.har⟩
def wipeN {α : Type} (l : List (Option α)) : List Nat → List (Option α)
  | [] => l
  | v :: vs => setN (wipeN l vs) v none
def S.wipe (s : S) (vs : List Nat) : S := ⟨wipeN s.sl vs, s.ce, s.ar⟩
theorem wipeN_len {α : Type} (l : List (Option α)) : ∀ vs, (wipeN l vs).length = l.length
  | [] => rfl
  | v :: vs => by unfold wipeN; rw [setN_eq, List.length_set, wipeN_len l vs]
theorem wipeN_some {α : Type} {l : List (Option α)} {i : Nat} {x : α} : ∀ {vs : List Nat}, (wipeN l vs)[i]? = some (some x) → l[i]? = some (some x) ∧ i ∉ vs
  | [], h => ⟨h, by simp⟩
  | v :: vs, h => by
    unfold wipeN at h
    rw [setN_eq] at h
    by_cases hi : v = i
    · subst hi
      by_cases hv : v < (wipeN l vs).length
      · rw [List.getElem?_set_self hv] at h; cases h
      · rw [List.getElem?_eq_none (by simpa using hv)] at h; cases h
    · rw [List.getElem?_set_ne hi] at h
      obtain ⟨h1, h2⟩ := wipeN_some h
      exact ⟨h1, by simp only [List.mem_cons, not_or]; exact ⟨fun e => hi e.symm, h2⟩⟩
theorem wipe_out' {σ : L2.St} {i : Nat} {vs : List Nat} (h : i ∉ vs) : (wipe σ vs)[i]? = σ[i]? := by
  induction vs with
  | nil => rfl
  | cons v vs ih =>
    unfold wipe
    rw [List.getElem?_set_ne (fun z => h (by rw [z]; exact List.mem_cons_self)), ih fun z => h (List.mem_cons_of_mem _ z)]
theorem wipe_in {σ : L2.St} {i : Nat} {vs : List Nat} (h : i ∈ vs) (hl : i < σ.length) : (wipe σ vs)[i]? = some none := by
  induction vs with
  | nil => cases h
  | cons v vs ih =>
    unfold wipe
    by_cases hv : v = i
    · subst hv
      rw [List.getElem?_set_self (by rw [wipe_length]; exact hl)]
    · rw [List.getElem?_set_ne hv]
      exact ih ((List.mem_cons.mp h).resolve_left fun z => hv z.symm)
theorem wipe_same {σ τ : L2.St} {vs : List Nat} (hl : σ.length = τ.length) (h : ∀ i, i ∉ vs → σ[i]? = τ[i]?) : wipe σ vs = wipe τ vs := by
  apply List.ext_getElem?
  intro i
  by_cases hi : i ∈ vs
  · by_cases hl1 : i < σ.length
    · rw [wipe_in hi hl1, wipe_in hi (hl ▸ hl1)]
    · rw [List.getElem?_eq_none (by rw [wipe_length]; omega), List.getElem?_eq_none (by rw [wipe_length]; omega)]
  · rw [wipe_out' hi, wipe_out' hi, h i hi]
theorem Cz.wipe {as : List Addr} {G H : Hp} {σ : L2.St} (c : Cz X F as G H σ s) (vs : List Nat) : Cz X F as G H (wipe σ vs) (s.wipe vs) := by
  refine ⟨c.sub, c.base, c.new, c.frame, c.len, c.pre, c.nd, c.own, c.fresh, c.there, c.cells, fun i e he => ?_, ?_, c.har⟩
  · obtain ⟨h1, h2⟩ := wipeN_some (show (wipeN s.sl vs)[i]? = _ from he)
    obtain ⟨v, w1, w2⟩ := c.slots i e h1
    exact ⟨v, by rw [wipe_out' h2]; exact w1, w2⟩
  · show (wipeN s.sl vs).length = _
    rw [wipeN_len, wipe_length]; exact c.slen
/-- the slots of an elder state -/
theorem Cz.back {as as' : List Addr} {G G' H H' : Hp} {σ τ : L2.St} {s' : S} (c : Cz X F as G H σ s) (c' : Cz X F as' G' H' τ s') (x : Ext as as' G G') : Cz X F as' G' H' σ ⟨s.sl, s'.ce, s.ar⟩ :=
  ⟨c'.sub, c'.base, c'.new, c'.frame, c'.len, c'.pre, c'.nd, c'.own, c'.fresh, c'.there, c'.cells, fun i e he => by
    obtain ⟨v, w1, w2⟩ := c.slots i e he
    exact ⟨v, w1, x.ve w2⟩, c.slen, c.har⟩
/-- a clause's tests -/
def JTs (X : Cx) (F : Fr) (ifs : List Expr) (s : S) (Ψ : Bool → S → Prop) : Prop := match ifs with
  | [] => Ψ true s
  | [c] => JT X F c s Ψ
  | _ => False
theorem jts_run {ifs : List Expr} {Ψ : Bool → S → Prop} {Q : Bool → Hp → Prop} {as : List Addr} {G H : Hp} {σ : L2.St} (h : JTs X F ifs s Ψ) (c : Cz X F as G H σ s) (k : ∀ b as' G' H' s', Cz X F as' G' H' σ s' → Ext as as' G G' → Ψ b s' → Q b H') :
    ∀ pins st, Inv X pins σ H st → wpAny (model X.prog X.w) X.A (forIn ifs true fun c r => if r = true then do let ok ← isTrue c X.env (eval c X.env); pure (ForInStep.yield ok) else pure (ForInStep.yield r)) (TP X pins σ Q) X.xe st := by
  match ifs, h with
  | [], h => exact fun pins st I => pts_nil.run pins st σ H Q I (k true as G H s c (Ext.refl _ _) h)
  | [e], h => exact fun pins st I => (pts_one (pt_sem X e)).run pins st σ H Q I (h as G H σ Q c k)
  | _ :: _ :: _, h => exact h.elim
section
variable {elt iter : Expr} {ifs : List Expr} {scope : Scope} {own : List (Str × Nat)} {pos p : Pos} {x : Str} {j B : Nat} {Φ : E → S → Prop}
/-- the block's tests and element, in every block -/
def ttB (X : Cx) (scope : Scope) (ifs : List Expr) : TT := fun σ H Q => ∀ Y, IsBlk X scope Y → ∀ pins st, Inv Y pins σ H st → wpAny (model Y.prog Y.w) Y.A (forIn ifs true fun c r => if r = true then do let ok ← isTrue c Y.env (eval c Y.env); pure (ForInStep.yield ok) else pure (ForInStep.yield r)) (TP Y pins σ Q) Y.xe st
def teB (X : Cx) (scope : Scope) (elt : Expr) : TE := fun σ H Q => ∀ Y, IsBlk X scope Y → semE Y elt σ H Q
theorem pts_B {X : Cx} {scope : Scope} {ifs : List Expr} (st : Shared) (H : Hp) (C : Addr) (cl : List (Str × Addr)) (fp : List Addr) : PTs (X.blk st H scope (compEnvC scope cl C X.env) fp) ifs (ttB X scope ifs) := ⟨fun pins s σ H Q I h => h _ ⟨st, _, C, cl, fp, rfl⟩ pins s I⟩
theorem pe_B {X : Cx} {scope : Scope} {elt : Expr} (st : Shared) (H : Hp) (C : Addr) (cl : List (Str × Addr)) (fp : List Addr) : PE (X.blk st H scope (compEnvC scope cl C X.env) fp) elt (teB X scope elt) := ⟨fun pins s σ H Q I h => h _ ⟨st, _, C, cl, fp, rfl⟩ pins s I⟩
theorem lc_read (hj : j ∈ own.map (·.2))
    (h : JI X F (.Name x p) iter s fun n it s1 => ∃ In : Nat → List E → S → Prop, In 0 [] ((s1.wipe (own.map (·.2))).push .lst []) ∧
      (∀ i v acc s', i < n → it i v → In i acc s' → nth s'.ce s1.ce.length = some (.nd .lst acc) ∧ ∀ Y, IsBlk X scope Y → JTs Y F ifs (s'.set j v) fun b s2 =>
        if b = true then ∀ Y2, IsBlk X scope Y2 → JE Y2 F elt s2 fun y s3 => nth s3.ce s1.ce.length = some (.nd .lst acc) ∧ acc.length < sizeLine ∧ In (i + 1) (acc ++ [y]) ((s3.put s1.ce.length .lst (acc ++ [y])).wipe (own.map (·.2)))
        else In (i + 1) acc (s2.wipe (own.map (·.2)))) ∧
      ∀ acc s', In n acc s' → Φ (.r s1.ce.length) ⟨s1.sl, s'.ce, s1.ar⟩) :
    ∀ as G H σ (Q : VK), Cz X F as G H σ s → (∀ v as' G' H' e' s', Cz X F as' G' H' σ s' → Ext as as' G G' → VE X.K G' as' v e' → Φ e' s' → Q v H') → tLc (semI X (.Name x p) iter) (gName j) (ttB X scope ifs) (teB X scope elt) (own.map (·.2)) σ H Q := by
  refine fun as G H σ Q c k => h as G H σ _ c fun J as1 G1 H1 s1 n it c1 x1 okJ ⟨In, h0, ht, hd⟩ => ?_
  intro D hD
  -- the state of a turn
  have c1' := (c1.wipe (own.map (·.2))).addO (kd := .lst) (o := .lst []) (vs := []) (es := []) hD upd_same .nil
  have hk : s1.ce.length = as1.length := c1.len.symm
  refine ⟨fun i m H' => m = n - i ∧ i ≤ n ∧ ∃ as' G' s' acc, Cz X F as' G' H' (wipe σ (own.map (·.2))) s' ∧ as1 ++ [D] <+: as' ∧ Same G1 G' ∧ In i acc s', ⟨n, by simp, Nat.zero_le _, _, _, _, [], c1', List.prefix_refl _, Same.refl _, h0⟩, ?_⟩
  rintro i m H' ⟨rfl, hi, as', G', s', acc, c', pr, sg, q⟩
  have prD : as'[s1.ce.length]? = some D := pre_get pr (by rw [hk, List.getElem?_append_right (Nat.le_refl _)]; simp)
  by_cases hlt : i < n
  · refine .inr ⟨okJ.go i as' G' H' _ _ hlt c' sg, fun H2 => ∃ as' G' s' acc, Cz X F as' G' H2 (wipe σ (own.map (·.2))) s' ∧ as1 ++ [D] <+: as' ∧ Same G1 G' ∧ In (i + 1) acc s', fun H2 ⟨as2, G2, s2, acc2, c2, p2, g2, q2⟩ => ⟨n - (i + 1), by omega, rfl, hlt, as2, G2, s2, acc2, c2, p2, g2, q2⟩, fun v H2 y => ?_⟩
    obtain ⟨G2, e, c2, ⟨x2, _⟩, ve, hv⟩ := okJ.yld i as' G' H' _ _ v H2 hlt c' sg y
    obtain ⟨t1, t2⟩ := ht i e acc s' hlt hv q
    have c3 := c2.set (i := j) ve
    have ws : wipe ((wipe σ (own.map (·.2))).set j (some v)) (own.map (·.2)) = wipe σ (own.map (·.2)) := wipe_same (by rw [List.length_set, wipe_length]) fun l hl => by
      rw [List.getElem?_set_ne (fun z => hl (by rw [← z]; exact hj)), wipe_out' hl]
    refine ⟨ws, fun Y hY pins st I => jts_run (t2 Y hY) (cz_blk hY c3) (fun b as4 G4 H4 s4 c4 x4 q4 => ?_) pins st I⟩
    cases b with
    | true =>
      simp only [if_true] at q4 ⊢
      refine fun Y2 hY2 => q4 Y2 hY2 as4 G4 H4 _ _ (cz_blk hY2 (cz_ublk hY c4)) fun y as5 G5 H5 y' s5 c5 x5 ve5 ⟨w1, w2, w3⟩ => ?_
      have c5 := cz_ublk hY2 c5
      rw [hY2.K] at ve5
      have p5 : as1 ++ [D] <+: as5 := (pr.trans x4.pre).trans x5.pre
      have prD5 : as5[s1.ce.length]? = some D := pre_get p5 (by rw [hk, List.getElem?_append_right (Nat.le_refl _)]; simp)
      rw [nth_eq] at w1
      obtain ⟨b, ws5, y1, y2, y3⟩ := c5.cells _ _ _ w1
      rw [prD5] at y1
      cases y1
      have y2' : H5 D = some (.lst ws5) := y2
      have hl := Paired.length y3
      refine ⟨ws5, y2', by rw [hl]; exact w2, ?_⟩
      have c6 := (c5.put (kd := .lst) (es := acc ++ [y']) (o := .lst (ws5 ++ [y])) w1 prD5 upd_same (y3.snoc ve5)).wipe (own.map (·.2))
      rw [ws] at c6
      exact ⟨as5, G5, _, _, c6, p5, ((sg.trans x2).trans x4.sub).trans x5.sub, w3⟩
    | false =>
      have c5 := (cz_ublk hY c4).wipe (own.map (·.2))
      rw [ws] at c5
      exact ⟨as4, G4, _, acc, c5, pr.trans x4.pre, (sg.trans x2).trans x4.sub, q4⟩
  · have e : i = n := by omega
    subst e
    refine .inl ⟨okJ.stop as' G' H' _ _ c' sg, ?_⟩
    have x : Ext as1 as' G1 G' := ⟨pre_snoc.trans pr, sg⟩
    exact k _ as' G' H' (.r s1.ce.length) _ (c1.back c' x) (x1.trans x) ⟨D, prD, rfl⟩ (hd acc s' q)
theorem pg_B (hn : ∀ Y, IsBlk X scope Y → NmW Y j x) (st : Shared) (H : Hp) (C : Addr) (cl : List (Str × Addr)) (fp : List Addr) : PG (X.blk st H scope (compEnvC scope cl C X.env) fp) (.Name x p) (gName j) := by
  have := hn _ ⟨st, H, C, cl, fp, rfl⟩
  exact pg_name this.nd this.nm this.loc this.hf
theorem je_lc (bx : Bx X B) (ok : BlkOk X.N X.env.scope scope own) (hj : j ∈ own.map (·.2)) (hn : ∀ Y, IsBlk X scope Y → NmW Y j x)
    (h : JI X F (.Name x p) iter s fun n it s1 => ∃ In : Nat → List E → S → Prop, In 0 [] ((s1.wipe (own.map (·.2))).push .lst []) ∧
      (∀ i v acc s', i < n → it i v → In i acc s' → nth s'.ce s1.ce.length = some (.nd .lst acc) ∧ ∀ Y, IsBlk X scope Y → JTs Y F ifs (s'.set j v) fun b s2 =>
        if b = true then ∀ Y2, IsBlk X scope Y2 → JE Y2 F elt s2 fun y s3 => nth s3.ce s1.ce.length = some (.nd .lst acc) ∧ acc.length < sizeLine ∧ In (i + 1) (acc ++ [y]) ((s3.put s1.ce.length .lst (acc ++ [y])).wipe (own.map (·.2)))
        else In (i + 1) acc (s2.wipe (own.map (·.2)))) ∧
      ∀ acc s', In n acc s' → Φ (.r s1.ce.length) ⟨s1.sl, s'.ce, s1.ar⟩)
    (hs : ∀ x, foldedSetIterable iter X.env x = pure x := by intro _; rfl) : JE X F (.ListComp elt [⟨.Name x p, iter, ifs, 0⟩] scope pos) s Φ :=
  je_of (pe_lc bx.calm bx.nd (pi_sem X _ iter) ok (pg_B hn) pts_B pe_B hs) (lc_read hj h)
/-- name = [..] on one line -/
theorem js_setLc {i : Nat} {y : Str} {py spos : Pos} {P : Po} (bx : Bx X B) (ny : NmW X i y) (ly : X.env.scope.names.lookup y = some .local) (hsw : swapsWith (.ListComp elt [⟨.Name x p, iter, ifs, 0⟩] scope pos) (some (.Name y py)) spos.line X.env = pure true)
    (ok : BlkOk X.N X.env.scope scope own) (hj : j ∈ own.map (·.2)) (hn : ∀ Y, IsBlk X scope Y → NmW Y j x)
    (h : JI X F (.Name x p) iter s fun n it s1 => ∃ In : Nat → List E → S → Prop, In 0 [] ((s1.wipe (own.map (·.2))).push .lst []) ∧
      (∀ i v acc s', i < n → it i v → In i acc s' → nth s'.ce s1.ce.length = some (.nd .lst acc) ∧ ∀ Y, IsBlk X scope Y → JTs Y F ifs (s'.set j v) fun b s2 =>
        if b = true then ∀ Y2, IsBlk X scope Y2 → JE Y2 F elt s2 fun y s3 => nth s3.ce s1.ce.length = some (.nd .lst acc) ∧ acc.length < sizeLine ∧ In (i + 1) (acc ++ [y]) ((s3.put s1.ce.length .lst (acc ++ [y])).wipe (own.map (·.2)))
        else In (i + 1) acc (s2.wipe (own.map (·.2)))) ∧
      ∀ acc s', In n acc s' → P.nx ((⟨s1.sl, s'.ce, s1.ar⟩ : S).set i (.r s1.ce.length)))
    (hs : ∀ x, foldedSetIterable iter X.env x = pure x := by intro _; rfl) : JS X F (.Assign [.Name y py] (.ListComp elt [⟨.Name x p, iter, ifs, 0⟩] scope pos) spos) s P := fun as G H σ D c k =>
  PS.sem (ps_setLc bx.calm bx.nd ny.nm ly hsw (pi_sem X _ iter) ok (pg_B hn) pts_B pe_B hs) (lc_read (Φ := fun e1 s1 => P.nx (s1.set i e1)) hj h as G H σ _ c fun v as1 G1 H1 e1 s1 c1 x1 ve q => k.nx as1 G1 H1 _ _ (c1.set ve) x1.sub q)
end
end DL
namespace DL
open PySem PySem.Spec PyProof.Rows L2
variable {X : Cx} {F : Fr} {s : S}
/-! ### blocks, statement by statement -/
section
variable {e a b c tg iter : Expr} {es rest : List Expr} {st : Stmt} {sts body : List Stmt} {P : Po} {pos p p' : Pos} {x : Str}
theorem jss_set {i : Nat} (n : NmW X i x) (h : JE X F e s fun e1 s1 => JSs X F sts (s1.set i e1) P) (hs : swapsWith e (some (.Name x p')) pos.line X.env = pure false := by rfl) : JSs X F (.Assign [.Name x p'] e pos :: sts) s P :=
  jss_cons (js_set n h hs)
theorem jss_ret (h : JE X F e s P.rt) : JSs X F (.Return (some e) pos :: sts) s P := jss_cons (js_ret h)
theorem jss_retN (h : P.rt (.d .non) s) : JSs X F (.Return none pos :: sts) s P := jss_cons (js_retN h)
theorem jss_break (h : P.bk s) : JSs X F (.Break pos :: sts) s P := jss_cons (js_break h)
theorem jss_cont (h : P.ct s) : JSs X F (.Continue pos :: sts) s P := jss_cons (js_cont h)
theorem jss_expr (h : JE X F e s fun _ s1 => JSs X F sts s1 P) (hs : swapsWith e none pos.line X.env = pure false := by rfl) : JSs X F (.Expr e pos :: sts) s P := jss_cons (js_expr h hs)
theorem jss_doc {z : Str} {j : Nat} (h : JSs X F sts s P) : JSs X F (.Expr (.Constant (.str z) j p) pos :: sts) s P := jss_cons (js_doc h)
theorem jss_asg {tg : Expr} (h : JE X F e s fun e1 s1 => JG X F tg e1 s1 fun s2 => JSs X F sts s2 P) (hs : swapsWithSole [tg] e pos.line X.env = pure false := by rfl) (hw : swappedStores [tg] e X.env = pure none := by rfl)
    (h1 : (assignEach [tg] X.env).map (·.2) = [assign tg X.env] := by rfl) : JSs X F (.Assign [tg] e pos :: sts) s P := jss_cons (js_asg h hs hw h1)
/-- behind an if: both branches come to the rest -/
def Po.then (P : Po) (N : S → Prop) : Po := { P with nx := N }
theorem jss_if {t u : List Stmt} (h : JT X F c s fun k s1 => if k = true then JSs X F t s1 (P.then fun s1 => JSs X F sts s1 P) else JSs X F u s1 (P.then fun s1 => JSs X F sts s1 P)) : JSs X F (.If c t u pos :: sts) s P := jss_cons (js_if h)
/-- an if whose block leaves -/
theorem jss_nilT {N : S → Prop} (h : N s) : JSs X F [] s (P.then N) := jss_nil h
/-- both branches come to M, the rest is shown once -/
theorem jss_ifM {t u : List Stmt} (M : S → Prop) (h : JT X F c s fun k s1 => if k = true then JSs X F t s1 (P.then M) else JSs X F u s1 (P.then M)) (h2 : ∀ s1, M s1 → JSs X F sts s1 P) : JSs X F (.If c t u pos :: sts) s P :=
  jss_cons (js_if (fun as G H σ Q cz k => h as G H σ Q cz fun b as' G' H' s' c' x q => k b as' G' H' s' c' x (by
    cases b with
    | true => exact JSs.mono q (fun s m => h2 s m) (fun _ _ z => z) (fun _ z => z) (fun _ z => z)
    | false => exact JSs.mono q (fun s m => h2 s m) (fun _ _ z => z) (fun _ z => z) (fun _ z => z))))
/-- the last statement -/
theorem jss_if1 {t u : List Stmt} (h : JT X F c s fun k s1 => if k = true then JSs X F t s1 P else JSs X F u s1 P) : JSs X F (.If c t u pos :: []) s P :=
  jss_cons (js_if (fun as G H σ Q cz k => h as G H σ Q cz fun b as' G' H' s' c' x q => k b as' G' H' s' c' x (by
    cases b with
    | true => exact JSs.mono q (fun s m => jss_nil m) (fun _ _ z => z) (fun _ z => z) (fun _ z => z)
    | false => exact JSs.mono q (fun s m => jss_nil m) (fun _ _ z => z) (fun _ z => z) (fun _ z => z))))
/-- an if that returns -/
theorem jss_ifr {e : Expr} {p1 : Pos} (h : JT X F c s fun k s1 => if k = true then JE X F e s1 P.rt else JSs X F sts s1 P) : JSs X F (.If c [.Return (some e) p1] [] pos :: sts) s P :=
  jss_cons (js_if (fun as G H σ Q cz k => h as G H σ Q cz fun b as' G' H' s' c' x q => k b as' G' H' s' c' x (by
    cases b with
    | true => exact jss_ret (P := P.then fun s1 => JSs X F sts s1 P) q
    | false => exact jss_nilT (P := P) (N := fun s1 => JSs X F sts s1 P) q)))
theorem jss_ifbr {p1 : Pos} (h : JT X F c s fun k s1 => if k = true then P.bk s1 else JSs X F sts s1 P) : JSs X F (.If c [.Break p1] [] pos :: sts) s P :=
  jss_cons (js_if (fun as G H σ Q cz k => h as G H σ Q cz fun b as' G' H' s' c' x q => k b as' G' H' s' c' x (by
    cases b with
    | true => exact jss_break (P := P.then fun s1 => JSs X F sts s1 P) q
    | false => exact jss_nilT (P := P) (N := fun s1 => JSs X F sts s1 P) q)))
theorem jss_for {B : Nat} (bx : Bx X B) (In : Nat → S → Prop) (h : JI X F tg iter s fun n it s1 => In 0 s1 ∧ (∀ i v s', i < n → it i v → In i s' → JG X F tg v s' fun s2 => JSs X F body s2 { nx := In (i + 1), ct := In (i + 1), bk := fun s3 => JSs X F sts s3 P, rt := P.rt }) ∧ ∀ s', In n s' → JSs X F sts s' P)
    (hs : ∀ x, foldedSetIterable iter X.env x = pure x := by intro _; rfl) : JSs X F (.For tg iter body [] pos :: sts) s P := jss_cons (js_for bx In h hs)
theorem jss_while {B : Nat} (bx : Bx X B) (W : S → Prop) (μ : S → Nat) (h0 : W s) (h : ∀ s, W s → JT X F c s fun b s2 => if b = true then JSs X F body s2 { nx := fun s3 => W s3 ∧ μ s3 < μ s, ct := fun s3 => W s3 ∧ μ s3 < μ s, bk := fun s3 => JSs X F sts s3 P, rt := P.rt } else JSs X F sts s2 P) :
    JSs X F (.While c body [] pos :: sts) s P := jss_cons (js_while bx W μ h0 h)
theorem jss_par {i j : Nat} {y : Str} {px py pt pt2 : Pos} {kt k2 : Nat} {B : Nat} (bx : Bx X B) (n : NmW X i x) (m : NmW X j y) (hij : i ≠ j) (lx : X.env.scope.names.lookup x = some .local) (ly : X.env.scope.names.lookup y = some .local)
    (hw : swappedStores [.Tuple [.Name x px, .Name y py] kt pt] (.Tuple [a, b] k2 pt2) X.env = pure (some [x, y]))
    (h : JE X F a s fun e1 s1 => JE X F b s1 fun e2 s2 => JSs X F sts ((s2.set i e1).set j e2) P)
    (hs : swapsWithSole [.Tuple [.Name x px, .Name y py] kt pt] (.Tuple [a, b] k2 pt2) pos.line X.env = pure false := by rfl) (ns : NoStar a := by intro _ _; rfl) (ns2 : NoStar b := by intro _ _; rfl) : JSs X F (.Assign [.Tuple [.Name x px, .Name y py] kt pt] (.Tuple [a, b] k2 pt2) pos :: sts) s P :=
  jss_cons (js_par bx n m hij lx ly hw h hs ns ns2)
end
/-! ### branches -/
theorem ite_dec {p A B : Prop} [Decidable p] (h1 : p → A) (h2 : ¬ p → B) : if decide p = true then A else B := by
  by_cases h : p
  · rw [if_pos (decide_eq_true h)]; exact h1 h
  · rw [if_neg (by simpa using h)]; exact h2 h
theorem ite_ndec {p A B : Prop} [Decidable p] (h1 : ¬ p → A) (h2 : p → B) : if (!decide p) = true then A else B := by
  by_cases h : p
  · rw [if_neg (by simpa using h)]; exact h2 h
  · rw [if_pos (by simpa using h)]; exact h1 h
theorem ite_bool {b : Bool} {A B : Prop} (h1 : b = true → A) (h2 : b = false → B) : if b = true then A else B := by
  cases b with
  | true => exact h1 rfl
  | false => exact h2 rfl
theorem ite_nbool {b : Bool} {A B : Prop} (h1 : b = false → A) (h2 : b = true → B) : if (!b) = true then A else B := by
  cases b with
  | true => exact h2 rfl
  | false => exact h1 rfl
theorem ite_nT {A B : Prop} (h : B) : if (!true) = true then A else B := h
theorem ite_nF {A B : Prop} (h : A) : if (!false) = true then A else B := h
end DL
namespace DL
open PySem PySem.Spec PyProof.Rows L2
variable {X : Cx} {F : Fr} {s : S}
theorem env_eq {env : Env} {sc : Scope} (h : env.scope = sc) : env = { env with scope := sc } := by cases env; subst h; rfl
section
variable {e a b c tg iter : Expr} {es rest : List Expr} {sts body : List Stmt} {P : Po} {pos p p' : Pos} {x : Str} {Φ : E → S → Prop} {Ψ : Bool → S → Prop}
variable {Pg : Program} {w : World} {K : PySem.W.Frag} {mg : Str → Option Value} {base : Heap} {N : List Str} {sc : Scope} {kk : Nat}
theorem jss_par' {i j : Nat} {y : Str} {px py pt pt2 : Pos} {kt k2 : Nat} (hX : XIs X Pg w K mg base N sc kk) (n : NmW X i x) (m : NmW X j y) (hij : i ≠ j) (lx : sc.names.lookup x = some .local) (ly : sc.names.lookup y = some .local)
    (h : JE X F a s fun e1 s1 => JE X F b s1 fun e2 s2 => JSs X F sts ((s2.set i e1).set j e2) P)
    (hw : swappedStores [.Tuple [.Name x px, .Name y py] kt pt] (.Tuple [a, b] k2 pt2) { X.env with scope := sc } = pure (some [x, y]))
    (hs : swapsWithSole [.Tuple [.Name x px, .Name y py] kt pt] (.Tuple [a, b] k2 pt2) pos.line X.env = pure false := by rfl) (ns : NoStar a := by intro _ _; rfl) (ns2 : NoStar b := by intro _ _; rfl) : JSs X F (.Assign [.Tuple [.Name x px, .Name y py] kt pt] (.Tuple [a, b] k2 pt2) pos :: sts) s P :=
  jss_par hX.bx n m hij (hX.loc lx) (hX.loc ly) (by rw [env_eq hX.eS]; exact hw) h hs ns ns2
/-! ### in a dict, in a text -/
def memK (k : Key) (ks : List Key) : Bool := ks.any fun k' => decide (k' = k)
theorem memK_iff {k : Key} {ks : List Key} : memK k ks = true ↔ k ∈ ks := by
  unfold memK
  rw [List.any_eq_true]
  constructor
  · rintro ⟨x, h, e⟩
    rw [← of_decide_eq_true e]; exact h
  · intro h
    exact ⟨k, h, decide_eq_true rfl⟩
theorem memK_cons {k k' : Key} {ks : List Key} : memK k (k' :: ks) = (decide (k' = k) || memK k ks) := rfl
theorem lk_mem {k : Key} : ∀ {ks : List Key} {vs : List V}, ks.length = vs.length → (valV (ks.zip vs) k).isSome = memK k ks
  | [], _, _ => by simp [valV, memK]
  | _ :: _, [], h => by simp at h
  | k' :: ks, v :: vs, h => by
    have ih := lk_mem (k := k) (ks := ks) (vs := vs) (by simpa using h)
    rw [memK_cons]
    by_cases e : k' = k
    · subst e
      simp [valV, List.zip_cons_cons, List.find?_cons]
    · have e2 : valV ((k' :: ks).zip (v :: vs)) k = valV (ks.zip vs) k := by simp [valV, List.zip_cons_cons, List.find?_cons, e]
      rw [e2, ih]
      simp [e]
theorem op_inD (hu : X.A.units + 1 < cLine) : OpR X (compareOp .In) (fun x y H Q => ∃ a o, y = .ref a ∧ DGet H a x o ∧ Q (.bl o.isSome) H) := by
  intro pins st σ H x y v u Q I rx ry h
  obtain ⟨a, o, rfl, g, q⟩ := h
  obtain rfl : u = Value.ref a := ry
  exact d_in hu I g rx fun s3 I3 => ⟨.bl o.isSome, H, I3, rfl, q⟩
theorem op_notInD (hu : X.A.units + 1 < cLine) : OpR X (compareOp .NotIn) (fun x y H Q => ∃ a o, y = .ref a ∧ DGet H a x o ∧ Q (.bl (!o.isSome)) H) := by
  intro pins st σ H x y v u Q I rx ry h
  obtain ⟨a, o, rfl, g, q⟩ := h
  obtain rfl : u = Value.ref a := ry
  exact d_notIn hu I g rx fun s3 I3 => ⟨.bl (!o.isSome), H, I3, rfl, q⟩
theorem jr_inD {B : Nat} {e1 e2 : E} {k : Key} {ks : List Key} {es : List E} (bx : Bx X B) (h : s.node e2 = some (.dct ks, es)) (hk : keyE e1 = some k) (q : Φ (.d (.bl (memK k ks))) s) : JR X F (compareOp .In) e1 e2 s Φ :=
  jr_of (op_inD bx.hu) fun as G H σ x y Q c v1 v2 kk => by
    obtain ⟨a, vs, rfl, ⟨n1, n2, od, n3⟩, ves⟩ := c.node v2 h
    obtain rfl := keyE_v hk v1
    exact ⟨a, _, rfl, .inl ⟨_, k, .inr ⟨od, n3⟩, rfl, rfl⟩, by rw [lk_mem n1]; exact kk _ as G H _ s c (Ext.refl _ _) (Rep.bl _) q⟩
theorem jr_ninD {B : Nat} {e1 e2 : E} {k : Key} {ks : List Key} {es : List E} (bx : Bx X B) (h : s.node e2 = some (.dct ks, es)) (hk : keyE e1 = some k) (q : Φ (.d (.bl (!memK k ks))) s) : JR X F (compareOp .NotIn) e1 e2 s Φ :=
  jr_of (op_notInD bx.hu) fun as G H σ x y Q c v1 v2 kk => by
    obtain ⟨a, vs, rfl, ⟨n1, n2, od, n3⟩, ves⟩ := c.node v2 h
    obtain rfl := keyE_v hk v1
    exact ⟨a, _, rfl, .inl ⟨_, k, .inr ⟨od, n3⟩, rfl, rfl⟩, by rw [lk_mem n1]; exact kk _ as G H _ s c (Ext.refl _ _) (Rep.bl _) q⟩
theorem jr_inS {cp : Nat} {z : Str} (q : Φ (.d (.bl (decide (cp ∈ z.cps.toList)))) s) : JR X F (compareOp .In) (.d (.str ⟨#[cp]⟩)) (.d (.str z)) s Φ :=
  jr_of op_in_sign fun as G H σ x y Q c v1 v2 kk => by
    cases v1
    cases v2
    exact ⟨cp, z, rfl, rfl, kk _ as G H _ s c (Ext.refl _ _) (Rep.bl _) q⟩
theorem jr_ninS {cp : Nat} {z : Str} (q : Φ (.d (.bl (!decide (cp ∈ z.cps.toList)))) s) : JR X F (compareOp .NotIn) (.d (.str ⟨#[cp]⟩)) (.d (.str z)) s Φ :=
  jr_of op_notIn_sign fun as G H σ x y Q c v1 v2 kk => by
    cases v1
    cases v2
    exact ⟨cp, z, rfl, rfl, kk _ as G H _ s c (Ext.refl _ _) (Rep.bl _) q⟩
theorem isBl_v {K : PySem.W.Frag} {G : Hp} {as : List Addr} {v : V} {e : E} {b : Bool} (h : VE K G as v e) : decide (v = .bl b) = isBl b e := by
  cases e with
  | r _ => obtain ⟨a, _, rfl⟩ := h; rfl
  | d x => cases h <;> simp [isBl]
theorem jr_isBl {e : E} {b : Bool} (q : Φ (.d (.bl (isBl b e))) s) : JR X F (compareOp .Is) e (.d (.bl b)) s Φ :=
  jr_of op_isBool fun as G H σ x y Q c v1 v2 k => by
    cases v2
    exact ⟨b, rfl, by rw [isBl_v v1]; exact k _ as G H _ s c (Ext.refl _ _) (Rep.bl _) q⟩
/-! ### unary minus -/
theorem ju_neg {i : Int} (q : Φ (.d (.int (-i))) s) : JU X F .USub (.d (.int i)) s Φ := fun as G H σ vs Q c ves k => by
  cases ves with
  | cons ve t =>
    cases t
    cases ve
    intro pins st σ' v I r
    exact un_neg pins st σ' H _ v Q I r ⟨i, rfl, k _ as G H _ s c (Ext.refl _ _) (Rep.int _) q⟩
/-! ### d[k] = v, d owned -/
def dpK (ks : List Key) (k : Key) : List Key := if memK k ks = true then ks else ks ++ [k]
def dpV {α : Type} (ks : List Key) (es : List α) (k : Key) (e : α) : List α := if memK k ks = true then (ks.zip es).map (fun q => if q.1 = k then e else q.2) else es ++ [e]
theorem dpK_nodup {ks : List Key} {k : Key} (h : ks.Nodup) : (dpK ks k).Nodup := by
  unfold dpK
  split
  · exact h
  · rename_i q
    rw [List.nodup_append]
    exact ⟨h, by simp, fun a ha b hb => by simp at hb; subst hb; exact fun z => q (memK_iff.mpr (z ▸ ha))⟩
theorem dpV_len {α : Type} {ks : List Key} {es : List α} {k : Key} {e : α} (h : ks.length = es.length) : (dpK ks k).length = (dpV ks es k e).length := by
  unfold dpK dpV
  split <;> simp [h]
theorem any_mem {k : Key} : ∀ {ks : List Key} {vs : List V}, ks.length = vs.length → ((ks.zip vs).any fun kv => decide (kv.1 = k)) = memK k ks
  | [], _, _ => by simp [memK]
  | _ :: _, [], h => by simp at h
  | k' :: ks, v :: vs, h => by
    rw [List.zip_cons_cons, List.any_cons, any_mem (by simpa using h), memK_cons]
theorem zip_map_put {k : Key} {v : V} : ∀ {ks : List Key} {vs : List V}, (ks.zip vs).map (fun kv => if kv.1 = k then (kv.1, v) else kv) = ks.zip ((ks.zip vs).map fun q => if q.1 = k then v else q.2)
  | [], _ => by simp
  | _ :: _, [] => by simp
  | k' :: ks, w :: vs => by
    rw [List.zip_cons_cons, List.map_cons, List.map_cons, List.zip_cons_cons, zip_map_put]
    by_cases e : k' = k
    · subst e; simp
    · simp [e]
theorem putK_zip {ks : List Key} {vs : List V} {k : Key} {v : V} (h : ks.length = vs.length) : putK (ks.zip vs) k v = (dpK ks k).zip (dpV ks vs k v) := by
  unfold putK dpK dpV
  rw [any_mem h]
  by_cases e : memK k ks = true
  · simp only [e, if_true]
    exact zip_map_put
  · rw [if_neg e, if_neg e, if_neg e, List.zip_append h]
    rfl
theorem ves_dpV {K : PySem.W.Frag} {G : Hp} {as : List Addr} {k : Key} {v : V} {e : E} (ve : VE K G as v e) {ks : List Key} {vs : List V} {es : List E} (h : VEs K G as vs es) : VEs K G as (dpV ks vs k v) (dpV ks es k e) := by
  unfold dpV
  split
  · rename_i hm
    clear hm
    induction h generalizing ks with
    | nil => simp; exact .nil
    | cons h t ih =>
      cases ks with
      | nil => exact .nil
      | cons k' ks =>
        rw [List.zip_cons_cons, List.zip_cons_cons, List.map_cons, List.map_cons]
        refine .cons ?_ ih
        by_cases q : k' = k
        · simp only [q, if_true]; exact ve
        · simp only [q, if_false]; exact h
  · exact h.snoc ve
theorem set_dictZ (hu : X.A.units + 1 < cLine) : PSet X (fun o i v H Q => ∃ (a : Addr) (od : Obj) (kvs : List (Key × V)) (k : Key), o = .ref a ∧ i = kV k ∧ H a = some (.frz od (.dK kvs)) ∧ (∀ o' u', X.H_0 a ≠ some (.frz o' u')) ∧ kvs.length < sizeLine ∧ ∀ od', Q (upd H a (.frz od' (.dK (putK kvs k v))))) := by
  intro pins st σ H o i v ov iv u Q I ro ri rv h
  obtain ⟨a, od, kvs, k, rfl, rfl, ha, hn, hz, q⟩ := h
  obtain rfl : ov = Value.ref a := ro
  have I1 := I.unlock ha hn
  refine d_setItem (H' := upd H a (.dK (putK kvs k v))) hu I1 (.inl ⟨kvs, k, upd_same, rfl, hz, by rw [upd_upd]⟩) ri rv fun s' I2 => ?_
  obtain ⟨od', I3⟩ := I2.lock (d := a) upd_same trivial
  rw [upd_upd] at I3
  exact ⟨_, I3, q od'⟩
theorem jg_setD {B : Nat} {o i : Expr} {v : E} {Φ : S → Prop} (bx : Bx X B) (hH : X.H_0 = F.H0) (h : JE X F o s fun eo s1 => JE X F i s1 fun ei s2 => ∃ k ks es kk, eo = .r k ∧ keyE ei = some kk ∧ nth s2.ce k = some (.nd (.dct ks) es) ∧ s2.ar ≤ k ∧ es.length < sizeLine ∧ Φ (s2.put k (.dct (dpK ks kk)) (dpV ks es kk v)))
    (ha : ∀ v, assign (.Subscript o i p) X.env v = (do
      let ov ← holding [v] (eval o X.env)
      let iv ← holding [v, ov] (eval i X.env)
      standAt p
      holding [v, ov, iv] (setItem ov iv v)
      release [v, ov, iv] []) := by intro _; rfl) : JG X F (.Subscript o i p) v s Φ :=
  fun as G H σ u Q c ve k => PG.sem (pg_sub (pe_sem X o) (pe_sem X i) (set_dictZ bx.hu) ha) (h as G H σ _ c fun v1 as1 G1 H1 e1 s1 c1 x1 ve1 h1 => h1 as1 G1 H1 σ _ c1 fun v2 as2 G2 H2 e2 s2 c2 x2 ve2 ⟨j, ks, es, kk, q1, q2, q3, q4, q5, q6⟩ => by
    subst q1
    obtain rfl := keyE_v q2 ve2
    obtain ⟨a, ha, rfl⟩ := x2.ve ve1
    rw [nth_eq] at q3
    obtain ⟨a', vs, g1, ⟨g2, g3, od, g4⟩, g5⟩ := c2.cells j _ _ q3
    rw [ha] at g1
    cases g1
    have hl := Paired.length g5
    have nA : a ∉ F.A0 := fun z => by
      obtain ⟨l, hl⟩ := List.getElem?_of_mem z
      have q := pre_get c2.pre hl
      obtain ⟨l1, e1⟩ := List.getElem?_eq_some_iff.mp q
      obtain ⟨l2, e2⟩ := List.getElem?_eq_some_iff.mp ha
      have := (List.getElem_inj c2.nd).mp (e1.trans e2.symm)
      have l3 := (List.getElem?_eq_some_iff.mp hl).1
      rw [c2.har] at l3
      omega
    have h0 : F.H0 a = none := (c2.fresh a (List.mem_of_getElem? ha)).resolve_left nA
    refine ⟨a, od, _, kk, rfl, rfl, g4, fun o' u' z => (by rw [hH, h0] at z; cases z), by rw [List.length_zip, g2, Nat.min_self, hl]; exact q5, fun od' => ?_⟩
    rw [putK_zip g2]
    exact k as2 G2 _ σ _ (c2.put (kd := .dct (dpK ks kk)) q3 ha ⟨dpV_len g2, dpK_nodup g3, od', upd_same⟩ (ves_dpV ((x1.trans x2).ve ve) g5)) (x1.trans x2) q6)
/-! ### sorted, sum, all -/
def rSortD : List V → Hp → VK → Prop := fun xs H Q => ∃ (a : Addr) (kvs : List (Key × V)) (ks : List Str), xs = [.ref a] ∧ Rd H a (.dK kvs) ∧ kvs.map (·.1) = ks.map Sum.inr ∧ ks.length < 64 ∧
    ∀ ys p, ys.Perm ks → sortedS ys = true → H p = none → Q (.ref p) (upd H p (.lst (ys.map V.str)))
theorem reps_strs {K : PySem.W.Frag} {G : Hp} : ∀ (ys : List Str), Reps K G (ys.map V.str) (ys.map D.str)
  | [] => .nil
  | y :: ys => .cons (.str y) (reps_strs ys)
theorem reps_ints {K : PySem.W.Frag} {G : Hp} : ∀ (ys : List Int), Reps K G (ys.map V.int) (ys.map D.int)
  | [] => .nil
  | y :: ys => .cons (.int y) (reps_ints ys)
/-- sorted of a dict's text keys: a new list -/
theorem je_sortedD {B : Nat} (bx : Bx X B) (g : GlB X "sorted") (h : JE X F a s fun e s1 => ∃ (ks : List Str) (es : List E), s1.node e = some (.dct (ks.map Sum.inr), es) ∧ ks.length < 64 ∧ ∀ ys, ys.Perm ks → sortedS ys = true → Φ (.d (.nd .lst (ys.map .str))) s1)
    (ns : NoStar a := by intro _ _; rfl) : JE X F (.Call (.Name "sorted" p) [a] [] pos) s Φ :=
  je_of (pe_callB (r := rSortD) (call_sortedD bx.calm) g.gl g.mg PyProof.Rows.boot_sorted (pa_cons (pe_sem X a) pa_nil (ns _ _)) (he := ns _ _)) fun as G H σ Q c k => h as G H σ _ c fun v as1 G1 H1 e1 s1 c1 x1 ve ⟨ks, es, h1, h2, h3⟩ => by
    obtain ⟨d, vs, rfl, ⟨n1, n2, od, n3⟩, ves⟩ := c1.node ve h1
    refine ⟨d, _, ks, rfl, .inr ⟨od, n3⟩, by rw [List.map_fst_zip (by omega)], h2, fun ys q hy hs hq => ?_⟩
    have sg : Same G1 (upd G1 q (.lst (ys.map V.str))) := same_new (c1.gnone hq)
    exact k _ as1 _ _ (.d (.nd .lst (ys.map .str))) s1 (c1.addG hq) (x1.trans ⟨List.prefix_refl _, sg⟩) (.nd (SqL.of upd_same) (reps_strs ys)) (h3 ys hy hs)
/-- sorted of a list of texts -/
theorem je_sortedS (g : GlB X "sorted") (h : JE X F a s fun e s1 => ∃ (ks : List Str), s1.node e = some (.lst, (ks.map D.str).map .d) ∧ ks.length < 64 ∧ ∀ ys, ys.Perm ks → sortedS ys = true → Φ (.d (.nd .lst (ys.map .str))) s1)
    (ns : NoStar a := by intro _ _; rfl) : JE X F (.Call (.Name "sorted" p) [a] [] pos) s Φ :=
  je_of (pe_callB (r := rSortedS X.K) cr_sortedS g.gl g.mg PyProof.Rows.boot_sorted (pa_cons (pe_sem X a) pa_nil (ns _ _)) (he := ns _ _)) fun as G H σ Q c k => h as G H σ _ c fun v as1 G1 H1 e1 s1 c1 x1 ve ⟨ks, h1, h2, h3⟩ => by
    obtain ⟨d, vs, rfl, n, ves⟩ := c1.node ve h1
    have hv : vs = ks.map V.str := by
      have := ves.reps
      clear h1 h2 h3 n ves
      induction ks generalizing vs with
      | nil => cases this; rfl
      | cons y ks ih => cases this with
        | cons a b => cases a; rw [ih _ b]; rfl
    subst hv
    refine ⟨d, ks, rfl, n, h2, fun ys q hy hs hq => ?_⟩
    have sg : Same G1 (upd G1 q (.lst (ys.map V.str))) := same_new (c1.gnone hq)
    exact k _ as1 _ _ (.d (.nd .lst (ys.map .str))) s1 (c1.addG hq) (x1.trans ⟨List.prefix_refl _, sg⟩) (.nd (SqL.of upd_same) (reps_strs ys)) (h3 ys hy hs)
theorem vs_ints {K : PySem.W.Frag} {G : Hp} : ∀ {ns : List Int} {vs : List V}, Reps K G vs (ns.map D.int) → vs = ns.map V.int
  | [], _, .nil => rfl
  | n :: ns, _, .cons a b => by cases a; rw [vs_ints b]; rfl
theorem vs_bls {K : PySem.W.Frag} {G : Hp} : ∀ {ns : List Bool} {vs : List V}, Reps K G vs (ns.map D.bl) → vs = ns.map V.bl
  | [], _, .nil => rfl
  | n :: ns, _, .cons a b => by cases a; rw [vs_bls b]; rfl
theorem je_sum {B : Nat} (bx : Bx X B) (g : GlB X "sum") (h : JE X F a s fun e s1 => ∃ ns : List Int, s1.node e = some (.lst, (ns.map D.int).map .d) ∧ Φ (.d (.int ns.sum)) s1) (ns : NoStar a := by intro _ _; rfl) : JE X F (.Call (.Name "sum" p) [a] [] pos) s Φ :=
  je_of (pe_callB (cr_sum bx.calm) g.gl g.mg PyProof.Rows.boot_sum (pa_cons (pe_sem X a) pa_nil (ns _ _)) (he := ns _ _)) fun as G H σ Q c k => h as G H σ _ c fun v as1 G1 H1 e1 s1 c1 x1 ve ⟨ms, h1, h2⟩ => by
    obtain ⟨d, vs, rfl, n, ves⟩ := c1.node ve h1
    obtain rfl := vs_ints ves.reps
    exact ⟨d, ms, rfl, n, k _ as1 G1 H1 _ s1 c1 x1 (Rep.int _) h2⟩
theorem je_all {B : Nat} (bx : Bx X B) (g : GlB X "all") (h : JE X F a s fun e s1 => ∃ bs : List Bool, s1.node e = some (.lst, (bs.map D.bl).map .d) ∧ Φ (.d (.bl (bs.all id))) s1) (ns : NoStar a := by intro _ _; rfl) : JE X F (.Call (.Name "all" p) [a] [] pos) s Φ :=
  je_of (pe_callB (cr_all bx.calm) g.gl g.mg PyProof.Rows.boot_all (pa_cons (pe_sem X a) pa_nil (ns _ _)) (he := ns _ _)) fun as G H σ Q c k => h as G H σ _ c fun v as1 G1 H1 e1 s1 c1 x1 ve ⟨ms, h1, h2⟩ => by
    obtain ⟨d, vs, rfl, n, ves⟩ := c1.node ve h1
    obtain rfl := vs_bls ves.reps
    exact ⟨d, ms, rfl, n, k _ as1 G1 H1 _ s1 c1 x1 (Rep.bl _) h2⟩
/-- tuple(a list): a new tuple -/
theorem jn_tupleL {Θ : Kd → List E → S → Prop} (g : GlB X "tuple") (h : JE X F a s fun e s1 => ∃ es, s1.node e = some (.lst, es) ∧ Θ .tup es s1) (ns : NoStar a := by intro _ _; rfl) : JN X F (.Call (.Name "tuple" p) [a] [] pos) s Θ := fun as G H σ Q c k =>
  PE.sem (pe_callTy call_tuple_of g.gl g.mg PyProof.Rows.boot_tuple (pa_cons (pe_sem X a) pa_nil (ns _ _)) (he := ns _ _)) (h as G H σ _ c fun v as1 G1 H1 e1 s1 c1 x1 ve ⟨es, h1, h2⟩ => by
    obtain ⟨d, vs, rfl, n, ves⟩ := c1.node ve h1
    exact ⟨d, vs, rfl, .inl ⟨n, fun q hq => k q vs as1 G1 H1 .tup es s1 c1 x1 hq (fun ks z => by cases z) ves h2⟩⟩)
theorem jn_listS {Θ : Kd → List E → S → Prop} (g : GlB X "list") (h : JE X F a s fun e s1 => ∃ kd es, s1.node e = some (kd, es) ∧ (kd = .lst ∨ kd = .tup) ∧ Θ .lst es s1) (ns : NoStar a := by intro _ _; rfl) : JN X F (.Call (.Name "list" p) [a] [] pos) s Θ := fun as G H σ Q c k =>
  PE.sem (pe_callTy call_list_of g.gl g.mg PyProof.Rows.boot_list (pa_cons (pe_sem X a) pa_nil (ns _ _)) (he := ns _ _)) (h as G H σ _ c fun v as1 G1 H1 e1 s1 c1 x1 ve ⟨kd, es, h1, hk, h2⟩ => by
    obtain ⟨d, vs, rfl, n, ves⟩ := c1.node ve h1
    refine ⟨d, vs, rfl, ?_, fun q hq => k q vs as1 G1 H1 .lst es s1 c1 x1 hq (fun ks z => by cases z) ves h2⟩
    rcases hk with rfl | rfl
    · exact .inl n
    · exact .inr n)
/-! ### slices -/
def JO (X : Cx) (F : Fr) (o : Option Expr) (s : S) (Φ : Option Int → S → Prop) : Prop := match o with
  | none => Φ none s
  | some e => JE X F e s fun e1 s1 => ∃ i, e1 = .d (.int i) ∧ Φ (some i) s1
def tO (X : Cx) (o : Option Expr) : TO := match o with
  | none => tNoPart
  | some e => tPart (semE X e)
theorem po_sem (X : Cx) : ∀ o, PO X o (tO X o)
  | none => po_none
  | some e => po_some (pe_sem X e)
theorem jo_run {o : Option Expr} {Φ : Option Int → S → Prop} {as : List Addr} {G H : Hp} {σ : L2.St} {Q : Option Int → Hp → Prop} (h : JO X F o s Φ) (c : Cz X F as G H σ s) (k : ∀ i as' G' H' s', Cz X F as' G' H' σ s' → Ext as as' G G' → Φ i s' → Q i H') : tO X o σ H Q := by
  match o, h with
  | none, h => exact k none as G H s c (Ext.refl _ _) h
  | some e, h =>
    refine h as G H σ _ c fun v as1 G1 H1 e1 s1 c1 x1 ve ⟨i, q1, q2⟩ => ?_
    subst q1
    cases ve
    exact ⟨i, rfl, k (some i) as1 G1 H1 s1 c1 x1 q2⟩
theorem je_sliceS {lo hi : Option Expr} {p2 : Pos} (h : JE X F a s fun e s1 => JO X F lo s1 fun l s2 => JO X F hi s2 fun u s3 => ∃ z, e = .d (.str z) ∧ z.length ≤ sizeLine ∧ Φ (.d (.str (cutS z l u))) s3) : JE X F (.Subscript a (.Slice lo hi none p2) pos) s Φ :=
  je_of (pe_slice sl_str (pe_sem X a) (po_sem X lo) (po_sem X hi)) fun as G H σ Q c k => h as G H σ _ c fun v as1 G1 H1 e1 s1 c1 x1 ve h1 => jo_run h1 c1 fun l as2 G2 H2 s2 c2 x2 h2 => jo_run h2 c2 fun u as3 G3 H3 s3 c3 x3 ⟨z, q1, q2, q3⟩ => by
    subst q1
    cases ve
    exact ⟨z, rfl, q2, k _ as3 G3 H3 _ s3 c3 ((x1.trans x2).trans x3) (Rep.str _) q3⟩
end
end DL
namespace DL
open PySem PySem.Spec PyProof.Rows L2
variable {X : Cx} {F : Fr} {s : S}
section
variable {as as1 as' : List Addr} {G G1 G' H H1 H' : Hp} {σ : L2.St}
/-- what stands and is no owned cell is frozen -/
theorem Cz.frzG (c : Cz X F as G H σ s) {b : Addr} {o : HO} (ho : H b = some o) (gn : G b = none) (hb : b ∉ as) (h0 : F.H0 b = none) : Cz X F as (upd G b o) H σ s := by
  have sg : Same G (upd G b o) := same_new gn
  refine ⟨fun d u q => ?_, c.base.trans sg, fun d q1 q2 => ?_, c.frame, c.len, c.pre, c.nd, fun k a kd es q1 q2 => ?_, c.fresh, c.there, fun k kd es q => ?_, fun i e q => ?_, c.slen, c.har⟩
  · by_cases hd : d = b
    · subst hd; rw [upd_same] at q; rw [ho, ← q]
    · rw [upd_ne hd] at q; exact c.sub d u q
  · have hd : d ≠ b := fun z => by rw [z] at q2; exact q2 h0
    rw [upd_ne hd]; exact c.new d q1 q2
  · have hd : a ≠ b := fun z => hb (by rw [← z]; exact List.mem_of_getElem? q1)
    rw [upd_ne hd]; exact c.own k a kd es q1 q2
  · obtain ⟨a, vs, w1, w2, w3⟩ := c.cells k kd es q
    exact ⟨a, vs, w1, w2, w3.mono (List.prefix_refl _) sg⟩
  · obtain ⟨v, w1, w2⟩ := c.slots i e q
    exact ⟨v, w1, w2.mono (List.prefix_refl _) sg⟩
theorem VE.lt {K : PySem.W.Frag} {v : V} : ∀ {e : E}, VE K G as v e → e.lt as.length = true
  | .d _, _ => rfl
  | .r k, ⟨a, h, _⟩ => by
    have := (List.getElem?_eq_some_iff.mp h).1
    simp [E.lt, this]
theorem Cz.popFrz (c1 : Cz X F as1 G1 H1 σ s) {kd : Kd} {ds : List D} (c' : Cz X F as' G' H' σ (s.push kd (ds.map .d))) (x : Ext as1 as' G1 G') :
    ∃ G2, Cz X F as1 G2 H' σ s ∧ Same G' G2 ∧ ∀ q, as'[s.ce.length]? = some q → Rep X.K G2 (.ref q) (.nd kd ds) := by
  have w : Wk (s.push kd (ds.map .d)) s := ⟨fun i e h => h, rfl, ⟨_, rfl⟩, rfl, by rw [← c1.har, ← c1.len]; exact c1.pre.length_le⟩
  have lt1 : ∀ (i : Nat) (e : E), s.sl[i]? = some (some e) → e.lt s.ce.length = true := fun i e h => by
    obtain ⟨v, _, q⟩ := c1.slots i e h
    rw [← c1.len]; exact q.lt
  have lt2 : ∀ (k : Nat) (kd : Kd) (es : List E), s.ce[k]? = some (.nd kd es) → ∀ e ∈ es, E.lt s.ce.length e = true := fun k kd es h e he => by
    obtain ⟨a, vs, _, _, q⟩ := c1.cells k kd es h
    obtain ⟨j, hj⟩ := List.getElem?_of_mem he
    obtain ⟨v, _, q2⟩ := q.get' hj
    rw [← c1.len]; exact q2.lt
  have c2 := c'.weak w lt1 lt2
  have ea : as'.take s.ce.length = as1 := by
    obtain ⟨t, rfl⟩ := x.pre
    rw [← c1.len, List.take_left]
  rw [ea] at c2
  obtain ⟨q, hq⟩ : ∃ q, as'[s.ce.length]? = some q := by
    have : s.ce.length < as'.length := by
      rw [c'.len]
      show _ < (s.ce ++ [Cell.nd kd (ds.map .d)]).length
      simp
    exact ⟨_, List.getElem?_eq_getElem this⟩
  have hce : (s.push kd (ds.map .d)).ce[s.ce.length]? = some (.nd kd (ds.map .d)) := by
    show (s.ce ++ [Cell.nd kd (ds.map .d)])[s.ce.length]? = _
    rw [List.getElem?_append_right (Nat.le_refl _)]; simp
  obtain ⟨q', vs, g1, g2, g3⟩ := c'.cells _ _ _ hce
  rw [hq] at g1
  cases g1
  obtain ⟨o, ho⟩ := g2.some
  have gn : G' q = none := c'.own _ _ _ _ hq hce
  have nin : q ∉ as1 := fun z => by
    obtain ⟨j, hj⟩ := List.getElem?_of_mem z
    have h1 := pre_get x.pre hj
    obtain ⟨l1, e1⟩ := List.getElem?_eq_some_iff.mp h1
    obtain ⟨l2, e2⟩ := List.getElem?_eq_some_iff.mp hq
    have e3 := (List.getElem_inj c'.nd).mp (e1.trans e2.symm)
    have l3 := (List.getElem?_eq_some_iff.mp hj).1
    rw [c1.len] at l3
    omega
  have h0 : F.H0 q = none := (c'.fresh q (List.mem_of_getElem? hq)).resolve_left fun z => nin (c1.pre.subset z)
  refine ⟨upd G' q o, c2.frzG ho gn nin h0, same_new gn, fun q2 hq2 => ?_⟩
  rw [hq] at hq2
  cases hq2
  have cg : CellAt (upd G' q o) q vs kd := g2.keep fun u z => by rw [upd_same, ← ho, z]
  exact .nd cg.node (g3.reps.mono (same_new gn))
end
section
variable {e a b c elt iter kx vx : Expr} {es ifs : List Expr} {scope : Scope} {own : List (Str × Nat)} {pos p : Pos} {x : Str} {j B : Nat} {Φ : E → S → Prop}
/-- what an expression has made last, frozen -/
theorem je_pop {kd : Kd} (h : JE X F e s fun e1 s1 => ∃ ds, e1 = .r s.ce.length ∧ s1 = s.push kd (ds.map .d) ∧ Φ (.d (.nd kd ds)) s) : JE X F e s Φ := fun as G H σ Q c k =>
  h as G H σ Q c fun v as1 G1 H1 e1 s1 c1 x1 ve ⟨ds, q1, q2, q3⟩ => by
    subst q1 q2
    obtain ⟨G2, c2, sg, rep⟩ := c.popFrz c1 x1
    obtain ⟨q, hq, rfl⟩ := ve
    exact k _ as G2 H1 _ s c2 ⟨List.prefix_refl _, x1.sub.trans sg⟩ (rep q hq) q3
/-- a call whose new answer is frozen at once -/
def RtΦd (Φ : E → S → Prop) (s : S) : Rt → Prop
  | .dat x => Φ (.d x) s
  | .new kd ds => Φ (.d (.nd kd ds)) s
theorem rtΦd_dat {d : D} (h : Φ (.d d) s) : RtΦd Φ s (.dat d) := h
theorem rtΦd_new {kd : Kd} {ds : List D} (h : Φ (.d (.nd kd ds)) s) : RtΦd Φ s (.new kd ds) := h
theorem frz_new {as1 : List Addr} {G' H' H1 : Hp} {σ : L2.St} {s1 : S} {v : V} {kd : Kd} {ds' : List D} (c2 : Cz X F as1 G' H' σ s1) (hn : ∀ b, H1 b = none → b ∉ as1 ∧ F.H0 b = none) (q5 : RtAt X.K G' H' H1 v (.new kd ds')) : ∃ G2, Cz X F as1 G2 H' σ s1 ∧ Same G' G2 ∧ Rep X.K G2 v (.nd kd ds') := by
  obtain ⟨b, ws, rfl, w1, w2, w3, w4⟩ := q5
  obtain ⟨o, ho⟩ := w3.some
  obtain ⟨n1, n2⟩ := hn b w1
  have cg : CellAt (upd G' b o) b ws kd := w3.keep fun u z => by rw [upd_same, ← ho, z]
  exact ⟨upd G' b o, c2.frzG ho w2 n1 n2, same_new w2, .nd cg.node (w4.mono (same_new w2))⟩
theorem je_callPd {R : RP} {k : Nat} (cb : CbP X x k R) (bx : Bx X B) (hB : k ≤ B)
    (h : JA X F (a :: es) s fun vs s1 => ∃ ds, dsOf vs = some ds ∧ R ds (RtΦd Φ s1)) (hdb : (x == ("__debug__" : Str)) = false := by decide) (he : starEach (a :: es) X.env = (false, eval a X.env) :: starEach es X.env := by rfl)
    (hpl : (backTo pos (starEach es X.env)).any (·.1) = false := by rfl) : JE X F (.Call (.Name x p) (a :: es) [] pos) s Φ := by
  obtain ⟨f, fd, ps, h1, h2, h3, h4⟩ := cb.ex
  refine je_of (pe_call h4 (bx.room.mono hB) cb.gl h1 h2 h3 .nil pass0 (pa_sem X _) hdb he hpl) fun as G H σ Q c kk => h as G H σ _ c fun vs as1 G1 H1 es1 s1 c1 x1 ves ⟨ds, e1, hR⟩ => ?_
  rw [List.append_nil]
  rw [dsOf_eq e1] at ves
  refine ⟨G1, ds, c1.sub, ves.reps, cb.mono ds _ _ (fun r hr v G' H' q1 q2 q3 q4 q5 => ?_) hR⟩
  have c2 := c1.call q1 q2 q3 q4
  have x2 : Ext as1 as1 G1 G' := ⟨List.prefix_refl _, q2⟩
  cases r with
  | dat y => exact kk v as1 G' H' (.d y) s1 c2 (x1.trans x2) q5 hr
  | new kd ds' =>
    obtain ⟨G2, c3, sg, rep⟩ := frz_new c2 (fun b hb => ⟨c1.notin hb, c1.h0none hb⟩) q5
    exact kk v as1 G2 H' _ s1 c3 (x1.trans ⟨List.prefix_refl _, q2.trans sg⟩) rep hr
/-! ### pure comprehensions -/
/-- the state in the block -/
def S.blk (s : S) (vs : List Nat) (acc : List E) (j : Nat) (v : E) : S := ((s.wipe vs).push .lst acc).set j v
theorem set_wipe {s : S} {vs : List Nat} {j : Nat} {v : E} (hj : j ∈ vs) : (s.set j v).wipe vs = s.wipe vs := by
  have h : wipeN (setN s.sl j (some v)) vs = wipeN s.sl vs := by
    apply List.ext_getElem?
    intro i
    by_cases hi : i ∈ vs
    · have key : ∀ {l : List (Option E)} {vs : List Nat}, i ∈ vs → (wipeN l vs)[i]? = if i < l.length then some none else none := by
        intro l vs h
        induction vs with
        | nil => cases h
        | cons v vs ih =>
          unfold wipeN
          rw [setN_eq]
          by_cases hv : v = i
          · subst hv
            by_cases hl : v < l.length
            · rw [List.getElem?_set_self (by rw [wipeN_len]; exact hl), if_pos hl]
            · rw [List.getElem?_eq_none (by rw [List.length_set, wipeN_len]; omega), if_neg hl]
          · rw [List.getElem?_set_ne hv]
            exact ih ((List.mem_cons.mp h).resolve_left fun z => hv z.symm)
      rw [key hi, key hi, setN_eq, List.length_set]
    · have key : ∀ {l : List (Option E)} {vs : List Nat}, i ∉ vs → (wipeN l vs)[i]? = l[i]? := by
        intro l vs h
        induction vs with
        | nil => rfl
        | cons v vs ih =>
          unfold wipeN
          rw [setN_eq, List.getElem?_set_ne (fun z => h (by rw [z]; exact List.mem_cons_self)), ih fun z => h (List.mem_cons_of_mem _ z)]
      rw [key hi, key hi, setN_eq, List.getElem?_set_ne (fun z => hi (by rw [← z]; exact hj))]
  show (⟨wipeN (setN s.sl j (some v)) vs, s.ce, s.ar⟩ : S) = ⟨wipeN s.sl vs, s.ce, s.ar⟩
  rw [h]
theorem wipe_wipe {s : S} {vs : List Nat} : (s.wipe vs).wipe vs = s.wipe vs := by
  have h : wipeN (wipeN s.sl vs) vs = wipeN s.sl vs := by
    apply List.ext_getElem?
    intro i
    by_cases hi : i ∈ vs
    · have key : ∀ {l : List (Option E)} {vs : List Nat}, i ∈ vs → (wipeN l vs)[i]? = if i < l.length then some none else none := by
        intro l vs h
        induction vs with
        | nil => cases h
        | cons v vs ih =>
          unfold wipeN
          rw [setN_eq]
          by_cases hv : v = i
          · subst hv
            by_cases hl : v < l.length
            · rw [List.getElem?_set_self (by rw [wipeN_len]; exact hl), if_pos hl]
            · rw [List.getElem?_eq_none (by rw [List.length_set, wipeN_len]; omega), if_neg hl]
          · rw [List.getElem?_set_ne hv]
            exact ih ((List.mem_cons.mp h).resolve_left fun z => hv z.symm)
      rw [key hi, key hi, wipeN_len]
    · have key : ∀ {l : List (Option E)} {vs : List Nat}, i ∉ vs → (wipeN l vs)[i]? = l[i]? := by
        intro l vs h
        induction vs with
        | nil => rfl
        | cons v vs ih =>
          unfold wipeN
          rw [setN_eq, List.getElem?_set_ne (fun z => h (by rw [z]; exact List.mem_cons_self)), ih fun z => h (List.mem_cons_of_mem _ z)]
      rw [key hi]
  show (⟨wipeN (wipeN s.sl vs) vs, s.ce, s.ar⟩ : S) = ⟨wipeN s.sl vs, s.ce, s.ar⟩
  rw [h]
theorem lc_pure (hj : j ∈ own.map (·.2)) {n : Nat} {it : Nat → E → Prop} {s1 : S} {f : Nat → D} (hn : n ≤ 16000000)
    (ht : ∀ i v acc, i < n → it i v → ∀ Y, IsBlk X scope Y → JE Y F elt (s1.blk (own.map (·.2)) acc j v) fun y s3 => y = .d (f i) ∧ s3 = s1.blk (own.map (·.2)) acc j v) :
    let In : Nat → List E → S → Prop := fun i acc s' => acc = ((List.range i).map f).map .d ∧ s' = (s1.wipe (own.map (·.2))).push .lst acc
    In 0 [] ((s1.wipe (own.map (·.2))).push .lst []) ∧
      (∀ i v acc s', i < n → it i v → In i acc s' → nth s'.ce s1.ce.length = some (.nd .lst acc) ∧ ∀ Y, IsBlk X scope Y → JTs Y F ([] : List Expr) (s'.set j v) fun b s2 =>
        if b = true then ∀ Y2, IsBlk X scope Y2 → JE Y2 F elt s2 fun y s3 => nth s3.ce s1.ce.length = some (.nd .lst acc) ∧ acc.length < sizeLine ∧ In (i + 1) (acc ++ [y]) ((s3.put s1.ce.length .lst (acc ++ [y])).wipe (own.map (·.2)))
        else In (i + 1) acc (s2.wipe (own.map (·.2)))) := by
  intro In
  refine ⟨⟨rfl, rfl⟩, ?_⟩
  rintro i v acc s' hi hv ⟨rfl, rfl⟩
  have hce : ∀ (t : S) (l : List E), (t.push .lst l).ce = t.ce ++ [Cell.nd .lst l] := fun _ _ => rfl
  have hnth : nth ((s1.wipe (own.map (·.2))).push .lst (((List.range i).map f).map .d)).ce s1.ce.length = some (.nd .lst (((List.range i).map f).map .d)) := by
    rw [nth_eq, hce]
    show (s1.ce ++ [_])[s1.ce.length]? = _
    rw [List.getElem?_append_right (Nat.le_refl _)]
    simp
  refine ⟨hnth, fun Y hY => ?_⟩
  dsimp only [JTs]
  refine L2.iteT ?_
  refine fun Y2 hY2 => (ht i v _ hi hv Y2 hY2).mono fun y s3 ⟨e1, e2⟩ => ?_
  subst e1 e2
  refine ⟨hnth, by simp; rw [sizeLine_eq]; omega, ?_, ?_⟩
  · rw [List.range_succ]; simp
  · have hput : (s1.blk (own.map (·.2)) (((List.range i).map f).map .d) j v).put s1.ce.length .lst ((((List.range i).map f).map .d) ++ [.d (f i)]) = ((s1.wipe (own.map (·.2))).push .lst ((((List.range i).map f).map .d) ++ [.d (f i)])).set j v := by
      show (⟨_, setN (s1.ce ++ [Cell.nd .lst _]) s1.ce.length _, _⟩ : S) = ⟨_, s1.ce ++ [_], _⟩
      rw [setN_eq, List.set_append_right _ _ (Nat.le_refl _)]
      simp
      exact ⟨rfl, rfl⟩
    rw [hput, set_wipe hj]
    show (⟨wipeN (wipeN s1.sl _) _, _, _⟩ : S) = ⟨wipeN s1.sl _, _, _⟩
    have := congrArg S.sl (wipe_wipe (s := s1) (vs := own.map (·.2)))
    have this : wipeN (wipeN s1.sl (own.map (·.2))) (own.map (·.2)) = wipeN s1.sl (own.map (·.2)) := this
    rw [this]
    rfl
/-- [elt for x in iter], the elements pure: the list, frozen -/
theorem je_lcP (bx : Bx X B) (ok : BlkOk X.N X.env.scope scope own) (hj : j ∈ own.map (·.2)) (hn : ∀ Y, IsBlk X scope Y → NmW Y j x)
    (h : JI X F (.Name x p) iter s fun n it s1 => s1 = s ∧ n ≤ 16000000 ∧ ∃ f : Nat → D, (∀ i v acc, i < n → it i v → ∀ Y, IsBlk X scope Y → JE Y F elt (s.blk (own.map (·.2)) acc j v) fun y s3 => y = .d (f i) ∧ s3 = s.blk (own.map (·.2)) acc j v) ∧ Φ (.d (.nd .lst ((List.range n).map f))) s)
    (hs : ∀ x, foldedSetIterable iter X.env x = pure x := by intro _; rfl) : JE X F (.ListComp elt [⟨.Name x p, iter, [], 0⟩] scope pos) s Φ := by
  refine je_pop (kd := .lst) (je_lc bx ok hj hn (fun as G H σ R c k => h as G H σ R c fun J as1 G1 H1 s1 n it c1 x1 okJ ⟨q1, q2, f, q3, q4⟩ => ?_) hs)
  subst q1
  refine k J as1 G1 H1 s1 n it c1 x1 okJ ⟨_, (lc_pure hj q2 q3).1, (lc_pure hj q2 q3).2, ?_⟩
  rintro acc s' ⟨rfl, rfl⟩
  exact ⟨_, rfl, rfl, q4⟩
end
end DL
namespace DL
open PySem PySem.Spec PyProof.Rows L2
variable {X : Cx} {F : Fr} {s : S}
/-! ### a frame within a frame -/
section
variable {as as' : List Addr} {G G' H H' : Hp} {σ σ' : L2.St}
def S.in (s : S) : S := ⟨s.sl, s.ce, s.ce.length⟩
theorem Cz.enter (c : Cz X F as G H σ s) : Cz X ⟨G, H, as⟩ as G H σ s.in :=
  ⟨c.sub, Same.refl _, fun b h _ => h, fun b o h _ => h, c.len, List.prefix_refl _, c.nd, c.own, fun a h => .inl h, c.there, c.cells, c.slots, c.slen, c.len⟩
theorem Cz.leave {s' : S} (c : Cz X F as G H σ s) (c' : Cz X ⟨G, H, as⟩ as' G' H' σ' s') : Cz X F as' G' H' σ' ⟨s'.sl, s'.ce, s.ar⟩ := by
  refine ⟨c'.sub, c.base.trans c'.base, fun b h1 h2 => ?_, fun b o h1 h2 => ?_, c'.len, c.pre.trans c'.pre, c'.nd, c'.own, fun a ha => ?_, c'.there, c'.cells, c'.slots, c'.slen, c.har⟩
  · refine c'.new b (c.new b h1 h2) fun z => ?_
    by_cases hA : b ∈ F.A0
    · exact c.there b (c.pre.subset hA) z
    · cases q : F.H0 b with
      | none => exact h2 q
      | some o => have := c.frame b o q hA; rw [show H b = none from z] at this; cases this
  · refine c'.frame b o (c.frame b o h1 h2) fun z => ?_
    rcases c.fresh b z with q | q
    · exact h2 q
    · rw [q] at h1; cases h1
  · rcases c'.fresh a ha with z | z
    · exact c.fresh a z
    · exact .inr (c.h0none z)
end
/-! ### a dict comprehension, pure -/
section
variable {elt iter kx vx : Expr} {scope : Scope} {own : List (Str × Nat)} {pos p : Pos} {x : Str} {j B : Nat} {Φ : E → S → Prop}
def dcF (kf : Nat → Key) (f : Nat → D) : Nat → List Key × List D
  | 0 => ([], [])
  | n + 1 => (dpK (dcF kf f n).1 (kf n), dpV (dcF kf f n).1 (dcF kf f n).2 (kf n) (f n))
theorem dcF_ok (kf : Nat → Key) (f : Nat → D) : ∀ n, (dcF kf f n).1.length = (dcF kf f n).2.length ∧ (dcF kf f n).1.Nodup ∧ (dcF kf f n).1.length ≤ n
  | 0 => ⟨rfl, List.nodup_nil, Nat.le_refl _⟩
  | n + 1 => by
    obtain ⟨h1, h2, h3⟩ := dcF_ok kf f n
    refine ⟨dpV_len h1, dpK_nodup h2, ?_⟩
    show (dpK (dcF kf f n).1 (kf n)).length ≤ n + 1
    unfold dpK
    split
    · omega
    · simp; omega
theorem dcF_keys (kf : Nat → Key) (f : Nat → D) : ∀ n, ∀ k ∈ (dcF kf f n).1, ∃ i, i < n ∧ k = kf i
  | 0, k, h => by cases h
  | n + 1, k, h => by
    have h : k ∈ dpK (dcF kf f n).1 (kf n) := h
    unfold dpK at h
    split at h
    · obtain ⟨i, h1, h2⟩ := dcF_keys kf f n k h
      exact ⟨i, by omega, h2⟩
    · rcases List.mem_append.mp h with h | h
      · obtain ⟨i, h1, h2⟩ := dcF_keys kf f n k h
        exact ⟨i, by omega, h2⟩
      · exact ⟨n, by omega, by simpa using h⟩
/-- the keys all different -/
theorem dcF_inj {kf : Nat → Key} {f : Nat → D} : ∀ {n : Nat}, (∀ i j, i < j → j < n → kf i ≠ kf j) → dcF kf f n = ((List.range n).map kf, (List.range n).map f)
  | 0, _ => rfl
  | n + 1, h => by
    have ih := dcF_inj (f := f) (n := n) fun i j h1 h2 => h i j h1 (by omega)
    have hm : ¬ memK (kf n) (dcF kf f n).1 = true := fun z => by
      obtain ⟨i, h1, h2⟩ := dcF_keys kf f n _ (memK_iff.mp z)
      exact h i n h1 (by omega) h2.symm
    show (dpK _ _, dpV _ _ _ _) = _
    unfold dpK dpV
    rw [if_neg hm, if_neg hm, ih, List.range_succ, List.map_append, List.map_append]
    rfl
/-- what the block asks -/
def Pure1 (X : Cx) (scope : Scope) (e : Expr) (s : S) (d : D) : Prop := ∀ Y F, IsBlk X scope Y → JE Y F e s fun y s3 => y = .d d ∧ s3 = s
def S.dblk (s : S) (vs : List Nat) (j : Nat) (v : E) : S := ((s.wipe vs).set j v).in
def DcI (X : Cx) (F : Fr) (tg iter kx vx : Expr) (scope : Scope) (vs : List Nat) (j : Nat) (s : S) (Φ : List Key → List D → Prop) : Prop :=
  JI X F tg iter s fun n it s1 => s1 = s ∧ n ≤ 16000000 ∧ ∃ (kf : Nat → Key) (f : Nat → D), (∀ i v, i < n → it i v → Pure1 X scope kx (s.dblk vs j v) (kD (kf i)) ∧ Pure1 X scope vx (s.dblk vs j v) (f i)) ∧ Φ (dcF kf f n).1 (dcF kf f n).2
theorem rep_kV {K : PySem.W.Frag} {G : Hp} {v : V} : ∀ {k : Key}, Rep K G v (kD k) → v = kV k
  | .inl i, h => by cases h; rfl
  | .inr x, h => by cases h; rfl
theorem dpV_map {α β : Type} (g : α → β) {ks : List Key} {es : List α} {k : Key} {e : α} : dpV ks (es.map g) k (g e) = (dpV ks es k e).map g := by
  unfold dpV
  split
  · rename_i h
    clear h
    induction ks generalizing es with
    | nil => rfl
    | cons k' ks ih =>
      cases es with
      | nil => rfl
      | cons a es =>
        rw [List.map_cons, List.zip_cons_cons, List.zip_cons_cons, List.map_cons, List.map_cons, List.map_cons, ih]
        by_cases q : k' = k
        · simp only [q, if_true]
        · simp only [q, if_false]
  · rw [List.map_append]; rfl
theorem reps_dpV {K : PySem.W.Frag} {G : Hp} {k : Key} {v : V} {d : D} (r : Rep K G v d) {ks : List Key} {vs : List V} {ds : List D} (h : Reps K G vs ds) : Reps K G (dpV ks vs k v) (dpV ks ds k d) := by
  refine VEs.reps (as := []) ?_
  rw [← dpV_map]
  exact ves_dpV (as := []) (e := .d d) r (VEs.ofReps h)
theorem dc_read {Φ : List Key → List D → Prop} (hj : j ∈ own.map (·.2)) (h : DcI X F (.Name x p) iter kx vx scope (own.map (·.2)) j s Φ) :
    ∀ as G H σ (Q : VK), Cz X F as G H σ s → (∀ D as' G' H' vs ks ds, Cz X F as' G' H' σ s → Ext as as' G G' → H' D = some (.dK (ks.zip vs)) → G' D = none → D ∉ as' → F.H0 D = none → Reps X.K G' vs ds → ks.length = vs.length → ks.Nodup → Φ ks ds → Q (.ref D) H') →
      tDc (semI X (.Name x p) iter) (gName j) (ttB X scope []) (teB X scope kx) (teB X scope vx) (own.map (·.2)) σ H Q := by
  refine fun as G H σ Q c k => h as G H σ _ c fun J as1 G1 H1 s1 n it c1 x1 okJ ⟨q1, q2, kf, f, q3, q4⟩ => ?_
  subst q1
  intro D hD
  have gD := c1.gnone hD
  have nD := c1.notin hD
  have hD0 := c1.h0none hD
  -- the state of a turn
  have keep : ∀ {as' : List Addr} {G' H' : Hp} {σ' : L2.St} {s' : S} {o : HO}, Cz X F as' G' H' σ' s' → G' D = none → D ∉ as' → F.H0 D = none → Cz X F as' G' (upd H' D o) σ' s' := fun {as' G' H' σ' s' o} c' g' n' h0 => by
    refine ⟨fun b u q => ?_, c'.base, c'.new, fun b u w1 w2 => ?_, c'.len, c'.pre, c'.nd, c'.own, c'.fresh, fun a ha => ?_, fun l kd es q => ?_, c'.slots, c'.slen, c'.har⟩
    · rw [upd_ne (ne_of_none q g')]; exact c'.sub b u q
    · rw [upd_ne (ne_of_none w1 h0)]; exact c'.frame b u w1 w2
    · rw [upd_ne (fun z => n' (by rw [← z]; exact ha))]; exact c'.there a ha
    · obtain ⟨a, ws, w1, w2, w3⟩ := c'.cells l kd es q
      exact ⟨a, ws, w1, w2.keep fun u z => by rw [upd_ne (fun z => n' (by rw [← z]; exact List.mem_of_getElem? w1))]; exact z, w3⟩
  have c1' := keep (o := .dK []) (c1.wipe (own.map (·.2))) gD nD hD0
  refine ⟨fun i m H' => m = n - i ∧ i ≤ n ∧ ∃ as' G' vs, Cz X F as' G' H' (wipe σ (own.map (·.2))) (s1.wipe (own.map (·.2))) ∧ Ext as1 as' G1 G' ∧ H' D = some (.dK ((dcF kf f i).1.zip vs)) ∧ G' D = none ∧ D ∉ as' ∧ Reps X.K G' vs (dcF kf f i).2, ⟨n, by simp, Nat.zero_le _, as1, G1, [], c1', Ext.refl _ _, upd_same, gD, nD, .nil⟩, ?_⟩
  rintro i m H' ⟨rfl, hi, as', G', vs, c', x', hd, g', n', rs⟩
  by_cases hlt : i < n
  · refine .inr ⟨okJ.go i as' G' H' _ _ hlt c' x'.sub, fun H2 => ∃ as' G' vs, Cz X F as' G' H2 (wipe σ (own.map (·.2))) (s1.wipe (own.map (·.2))) ∧ Ext as1 as' G1 G' ∧ H2 D = some (.dK ((dcF kf f (i + 1)).1.zip vs)) ∧ G' D = none ∧ D ∉ as' ∧ Reps X.K G' vs (dcF kf f (i + 1)).2, fun H2 ⟨as2, G2, vs2, w⟩ => ⟨n - (i + 1), by omega, rfl, hlt, as2, G2, vs2, w⟩, fun v H2 y => ?_⟩
    obtain ⟨G2, e, c2, ⟨x2, gk⟩, ve, hv⟩ := okJ.yld i as' G' H' _ _ v H2 hlt c' x'.sub y
    have hd2 : H2 D = _ := okJ.keep i as' G' H' _ _ v H2 hlt c' x'.sub y D _ hd
    have g2 : G2 D = none := gk D (by rw [hd]; exact fun z => nomatch z) g'
    obtain ⟨t1, t2⟩ := q3 i e hlt hv
    have c3 := c2.set (i := j) ve
    have ws : wipe ((wipe σ (own.map (·.2))).set j (some v)) (own.map (·.2)) = wipe σ (own.map (·.2)) := wipe_same (by rw [List.length_set, wipe_length]) fun l hl => by
      rw [List.getElem?_set_ne (fun z => hl (by rw [← z]; exact hj)), wipe_out' hl]
    refine ⟨ws, fun Y hY pins st I => pts_nil.run pins st _ _ _ I ?_⟩
    simp only [if_true]
    have c4 := c3.enter
    refine fun Y2 hY2 => t1 Y2 _ hY2 as' G2 H2 _ _ (cz_blk hY2 c4) fun y as5 G5 H5 y' s5 c5 x5 ve5 ⟨w1, w2⟩ => ?_
    subst w1 w2
    have ve5 := rep_kV ve5
    subst ve5
    have c5 := cz_ublk hY2 c5
    have g5 : G5 D = none := c5.new D g2 (by show H2 D ≠ none; rw [hd2]; exact fun z => nomatch z)
    have d5 : H5 D = _ := c5.frame D _ hd2 n'
    have n5 : D ∉ as5 := fun z => by
      rcases c5.fresh D z with z | z
      · exact n' z
      · rw [show H2 D = none from z] at hd2; cases hd2
    have c5 := c3.leave c5
    refine fun Y3 hY3 => t2 Y3 _ hY3 as5 G5 H5 _ _ (cz_blk hY3 c5.enter) fun y as6 G6 H6 y' s6 c6 x6 ve6 ⟨w1, w2⟩ => ?_
    subst w1 w2
    have ve6 : Rep Y3.K G6 y (f i) := ve6
    rw [hY3.K] at ve6
    have c6 := cz_ublk hY3 c6
    have g6 : G6 D = none := c6.new D g5 (by show H5 D ≠ none; rw [d5]; exact fun z => nomatch z)
    have d6 : H6 D = _ := c6.frame D _ d5 n5
    have n6 : D ∉ as6 := fun z => by
      rcases c6.fresh D z with z | z
      · exact n5 z
      · rw [show H5 D = none from z] at d5; cases d5
    have c6 := (c5.leave c6).wipe (own.map (·.2))
    rw [ws] at c6
    have es : (S.wipe ⟨(s1.dblk (own.map (·.2)) j e).sl, (s1.dblk (own.map (·.2)) j e).ce, s1.ar⟩ (own.map (·.2))) = s1.wipe (own.map (·.2)) := by
      show (((s1.wipe (own.map (·.2))).set j e).wipe (own.map (·.2))) = _
      rw [set_wipe hj, wipe_wipe]
    have c6 : Cz X F as6 G6 H6 (wipe σ (own.map (·.2))) (s1.wipe (own.map (·.2))) := es ▸ c6
    obtain ⟨l1, l2, l3⟩ := dcF_ok kf f i
    have ll : (dcF kf f i).1.length = vs.length := by rw [l1, rs.length]
    refine ⟨_, kf i, rfl, d6, ?_, as6, G6, dpV (dcF kf f i).1 vs (kf i) y, keep c6 g6 n6 hD0, ?_, ?_, g6, n6, ?_⟩
    · rw [List.length_zip, ← ll, Nat.min_self, sizeLine_eq]; omega
    · exact (x'.trans ⟨List.prefix_refl _, x2⟩).trans (x5.trans x6)
    · rw [upd_same, putK_zip ll]; rfl
    · exact reps_dpV ve6 (rs.mono ((x2.trans x5.sub).trans x6.sub))
  · have e : i = n := by omega
    subst e
    obtain ⟨l1, l2, l3⟩ := dcF_ok kf f i
    exact .inl ⟨okJ.stop as' G' H' _ _ c' x'.sub, k D as' G' H' vs _ _ (show Cz X F as' G' H' σ ⟨s1.sl, (s1.wipe (own.map (·.2))).ce, s1.ar⟩ from c1.back c' x') (x1.trans x') hd g' n' hD0 rs (by rw [l1, rs.length]) l2 q4⟩
/-- a dict laid now is locked and frozen -/
theorem lay_dct {as : List Addr} {G H : Hp} {σ : L2.St} {D : Addr} {ks : List Key} {vs : List V} {od : Obj} (c : Cz X F as G H σ s) (gD : G D = none) (nD : D ∉ as) (h0 : F.H0 D = none) : Cz X F as G (upd H D (.frz od (.dK (ks.zip vs)))) σ s := by
    refine ⟨fun b u q => ?_, c.base, c.new, fun b u w1 w2 => ?_, c.len, c.pre, c.nd, c.own, c.fresh, fun a ha => ?_, fun l kd es q => ?_, c.slots, c.slen, c.har⟩
    · rw [upd_ne (ne_of_none q gD)]; exact c.sub b u q
    · rw [upd_ne (ne_of_none w1 h0)]; exact c.frame b u w1 w2
    · rw [upd_ne (fun z => nD (by rw [← z]; exact ha))]; exact c.there a ha
    · obtain ⟨a, ws, w1, w2, w3⟩ := c.cells l kd es q
      exact ⟨a, ws, w1, w2.keep fun u z => by rw [upd_ne (fun z => nD (by rw [← z]; exact List.mem_of_getElem? w1))]; exact z, w3⟩
theorem frz_dct {as : List Addr} {G H : Hp} {σ : L2.St} {D : Addr} {ks : List Key} {vs : List V} {ds : List DL.D} {od : Obj} (c : Cz X F as G H σ s) (gD : G D = none) (nD : D ∉ as) (h0 : F.H0 D = none) (rs : Reps X.K G vs ds) (l : ks.length = vs.length) (nd : ks.Nodup) :
    Cz X F as (upd G D (.frz od (.dK (ks.zip vs)))) (upd H D (.frz od (.dK (ks.zip vs)))) σ s ∧ Same G (upd G D (.frz od (.dK (ks.zip vs)))) ∧ Rep X.K (upd G D (.frz od (.dK (ks.zip vs)))) (.ref D) (.nd (.dct ks) ds) := by
  have sg : Same G (upd G D (.frz od (.dK (ks.zip vs)))) := same_new gD
  exact ⟨(lay_dct c gD nD h0).frzG upd_same gD nD h0, sg, .nd ⟨l, nd, od, upd_same⟩ (rs.mono sg)⟩
/-- {k: v for x in iter}, pure: the dict, frozen -/
theorem je_dcP (bx : Bx X B) (ok : BlkOk X.N X.env.scope scope own) (hj : j ∈ own.map (·.2)) (hn : ∀ Y, IsBlk X scope Y → NmW Y j x)
    (h : DcI X F (.Name x p) iter kx vx scope (own.map (·.2)) j s fun ks ds => Φ (.d (.nd (.dct ks) ds)) s)
    (hs : ∀ x, foldedSetIterable iter X.env x = pure x := by intro _; rfl) : JE X F (.DictComp kx vx [⟨.Name x p, iter, [], 0⟩] scope pos) s Φ := fun as G H σ Q c k =>
  sem_lock (PE.sem (pe_dc bx.calm bx.nd (pi_sem X _ iter) ok (pg_B hn) pts_B pe_B pe_B hs) (dc_read hj h as G H σ _ c fun D as' G' H' vs ks ds c' x' hd gD nD h0 rs l nd q =>
    ⟨D, _, hd, trivial, fun od => by
      obtain ⟨c2, sg, rep⟩ := frz_dct (od := od) c' gD nD h0 rs l nd
      exact k _ as' _ _ _ s c2 (x'.trans ⟨List.prefix_refl _, sg⟩) rep q⟩))
theorem ps_setDc {i : Nat} {y : Str} {py : Pos} {kx vx tg iter : Expr} {ifs : List Expr} {scope : Scope} {own : List (Str × Nat)} {pos spos : Pos} {wi : TI} {g : TG} {tt : TT} {tk tv : TE} (hc : X.calm = true) (hN : X.N.Nodup) (hy : X.N[i]? = some y) (hyl : X.env.scope.names.lookup y = some .local)
    (hsw : swapsWith (.DictComp kx vx [⟨tg, iter, ifs, 0⟩] scope pos) (some (.Name y py)) spos.line X.env = pure true) (hi : PI X tg iter wi) (ok : BlkOk X.N X.env.scope scope own)
    (hg : ∀ (s : Shared) (H : Hp) (C : Addr) (cl : List (Str × Addr)) (fp : List Addr), PG (X.blk s H scope (compEnvC scope cl C X.env) fp) tg g) (ht : ∀ (s : Shared) (H : Hp) (C : Addr) (cl : List (Str × Addr)) (fp : List Addr), PTs (X.blk s H scope (compEnvC scope cl C X.env) fp) ifs tt)
    (hk : ∀ (s : Shared) (H : Hp) (C : Addr) (cl : List (Str × Addr)) (fp : List Addr), PE (X.blk s H scope (compEnvC scope cl C X.env) fp) kx tk)
    (he : ∀ (s : Shared) (H : Hp) (C : Addr) (cl : List (Str × Addr)) (fp : List Addr), PE (X.blk s H scope (compEnvC scope cl C X.env) fp) vx tv) (hs : ∀ x, foldedSetIterable iter X.env x = pure x := by intro _; rfl) :
    PS X (.Assign [.Name y py] (.DictComp kx vx [⟨tg, iter, ifs, 0⟩] scope pos) spos) (fun D σ H => tDc wi g tt tk tv (own.map (·.2)) σ H fun v H' => ∃ d u, H' d = some u ∧ Mut (some u) ∧ ∀ od, gName i v σ (upd H' d (.frz od u)) D.nx) := by
  refine ⟨fun pins s σ H D I h => ?_⟩
  rw [exec_Assign_Name_used _ _ _ _ hsw]
  refine wpAny_bind (wpAny_standAt (wpAny_bind ?_))
  show wpAny _ X.A (do let _ ← comprehension (.DictComp kx vx [⟨tg, iter, ifs, 0⟩] scope pos) scope X.env (firstIterPos [⟨tg, iter, ifs, 0⟩] pos) newDict false (eval iter X.env) (some (assign (.Name y py) X.env))) _ _ s
  refine wpAny_bind (thn (dc_core (Qf := fun _ s' => SP X pins D .next s') hc hN I hi ok hg ht hk he hs h fun L C s' m H' I' q hn f => ?_) fun _ s' hq => wpAny_pure (wpAny_pure hq))
  show wpAny _ _ (assign (.Name y py) X.env (.ref L)) _ _ _
  obtain ⟨d, u, hd, mu, q⟩ := q
  obtain ⟨od, I''⟩ := I'.lock hd mu
  refine wpAny_assign_Name (store_ok2 (v := V.ref L) I'' hN hy (.inl hyl) rfl (fun s2 I2 ⟨a, sb, ha⟩ => ?_) (.inr hyl))
  obtain ⟨f0, f1, f2, f3, f4, f5⟩ := f
  have f0 : upd H' d (.frz od u) C = none := by rw [upd_ne (fun z => by rw [z, hd] at f0; cases f0)]; exact f0
  have haC : C ≠ a := by
    rcases ha with z | z
    · rw [z]; exact f1
    · exact fun e => f4 y a z e.symm
  refine ⟨m, hn.sameBut sb haC, fun h3 sb3 => ?_⟩
  exact ⟨_, _, I2.turned (t' := s2.toks) (fun b o hb e => (sb3.2 b hb).trans e) f0 f1 f3 f4 f5, q od⟩
/-- name = {..} on one line -/
theorem js_setDcP {i : Nat} {y : Str} {py spos : Pos} {P : Po} (bx : Bx X B) (ny : NmW X i y) (ly : X.env.scope.names.lookup y = some .local) (hsw : swapsWith (.DictComp kx vx [⟨.Name x p, iter, [], 0⟩] scope pos) (some (.Name y py)) spos.line X.env = pure true)
    (ok : BlkOk X.N X.env.scope scope own) (hj : j ∈ own.map (·.2)) (hn : ∀ Y, IsBlk X scope Y → NmW Y j x)
    (h : DcI X F (.Name x p) iter kx vx scope (own.map (·.2)) j s fun ks ds => P.nx (s.set i (.d (.nd (.dct ks) ds))))
    (hs : ∀ x, foldedSetIterable iter X.env x = pure x := by intro _; rfl) : JS X F (.Assign [.Name y py] (.DictComp kx vx [⟨.Name x p, iter, [], 0⟩] scope pos) spos) s P := fun as G H σ D c k =>
  PS.sem (ps_setDc bx.calm bx.nd ny.nm ly hsw (pi_sem X _ iter) ok (pg_B hn) pts_B pe_B pe_B hs) (dc_read hj h as G H σ _ c fun d as' G' H' vs ks ds c' x' hd gD nD h0 rs l nd q =>
    ⟨d, _, hd, trivial, fun od => by
      obtain ⟨c2, sg, rep⟩ := frz_dct (od := od) c' gD nD h0 rs l nd
      exact k.nx as' _ _ _ _ (c2.set (i := i) (v := .ref d) (e := .d (.nd (.dct ks) ds)) rep) (x'.sub.trans sg) q⟩)
/-- .. owned -/
theorem js_setDcO {i : Nat} {y : Str} {py spos : Pos} {P : Po} (bx : Bx X B) (ny : NmW X i y) (ly : X.env.scope.names.lookup y = some .local) (hsw : swapsWith (.DictComp kx vx [⟨.Name x p, iter, [], 0⟩] scope pos) (some (.Name y py)) spos.line X.env = pure true)
    (ok : BlkOk X.N X.env.scope scope own) (hj : j ∈ own.map (·.2)) (hn : ∀ Y, IsBlk X scope Y → NmW Y j x)
    (h : DcI X F (.Name x p) iter kx vx scope (own.map (·.2)) j s fun ks ds => P.nx ((s.push (.dct ks) (ds.map .d)).set i (.r s.ce.length)))
    (hs : ∀ x, foldedSetIterable iter X.env x = pure x := by intro _; rfl) : JS X F (.Assign [.Name y py] (.DictComp kx vx [⟨.Name x p, iter, [], 0⟩] scope pos) spos) s P := fun as G H σ D c k =>
  PS.sem (ps_setDc bx.calm bx.nd ny.nm ly hsw (pi_sem X _ iter) ok (pg_B hn) pts_B pe_B pe_B hs) (dc_read hj h as G H σ _ c fun d as' G' H' vs ks ds c' x' hd gD nD h0 rs l nd q =>
    ⟨d, _, hd, trivial, fun od => by
      have c2 := (lay_dct (ks := ks) (vs := vs) (od := od) c' gD nD h0).grow (kd := .dct ks) gD nD h0 ⟨l, nd, od, upd_same⟩ (VEs.ofReps rs)
      exact k.nx _ _ _ _ _ (c2.set (i := i) (v := .ref d) (e := .r s.ce.length) ⟨d, by rw [← c'.len, List.getElem?_append_right (Nat.le_refl _)]; simp, rfl⟩) x'.sub q⟩)
end
theorem jo_none {Φ : Option Int → S → Prop} (h : Φ none s) : JO X F none s Φ := h
theorem jo_some {e : Expr} {Φ : Option Int → S → Prop} (h : JE X F e s fun e1 s1 => ∃ i, e1 = .d (.int i) ∧ Φ (some i) s1) : JO X F (some e) s Φ := h
end DL
namespace DL
open PySem PySem.Spec PyProof.Rows L2
variable {X : Cx} {F : Fr} {s : S}
/-! ### a block's scope, by looking -/
def blkB (N : List Str) (sc scope : Scope) (own : List (Str × Nat)) : Bool :=
  decide (scope.kind = .function) && scope.names.all (fun y => decide (scope.names.lookup y.1 = some y.2)) && own.all (fun p => decide (N[p.2]? = some p.1))
    && scope.names.all (fun y => decide (y.2 = .free → (sc.names.lookup y.1 = some .cell ∨ sc.names.lookup y.1 = some .free)))
    && scope.names.all (fun y => decide ((y.2 = .local ∨ y.2 = .cell) → (y.1 ∈ own.map (·.1) ∨ y.1 ∉ N)))
theorem blk_ok {P : Program} {w : World} {K : PySem.W.Frag} {mg : Str → Option Value} {base : Heap} {N : List Str} {sc scope : Scope} {k : Nat} {own : List (Str × Nat)} (hX : XIs X P w K mg base N sc k) (h : blkB N sc scope own = true) : BlkOk X.N X.env.scope scope own := by
  rw [hX.eN, hX.eS]
  unfold blkB at h
  simp only [Bool.and_eq_true, List.all_eq_true, decide_eq_true_eq] at h
  obtain ⟨⟨⟨⟨h1, h2⟩, h3⟩, h4⟩, h5⟩ := h
  exact ⟨h1, h2, h3, h4, h5⟩
/-! ### keys and what stands there -/
theorem lk_get {α : Type} : ∀ {ks : List Key} {es : List α} {i : Nat} {k : Key} {e : α}, ks.Nodup → ks[i]? = some k → es[i]? = some e → lk (ks.zip es) k = some e
  | [], _, _, _, _, _, h, _ => by simp at h
  | k' :: ks, [], _, _, _, _, _, h => by simp at h
  | k' :: ks, e' :: es, 0, k, e, _, h1, h2 => by
    simp at h1 h2
    subst h1 h2
    simp [lk]
  | k' :: ks, e' :: es, i + 1, k, e, hn, h1, h2 => by
    simp at h1 h2
    have hk : k ∈ ks := List.mem_of_getElem? h1
    have hne : k' ≠ k := fun z => (List.nodup_cons.mp hn).1 (z ▸ hk)
    have := lk_get (List.nodup_cons.mp hn).2 h1 h2
    unfold lk at this ⊢
    rw [List.zip_cons_cons, List.find?_cons_of_neg (by simp [hne])]
    exact this
theorem lk_map {α β : Type} {f : α → β} {k : Key} : ∀ {ks : List Key} {es : List α}, lk (ks.zip (es.map f)) k = (lk (ks.zip es) k).map f
  | [], es => by simp [lk]
  | _ :: _, [] => by simp [lk]
  | k' :: ks, e :: es => by
    have ih := lk_map (f := f) (k := k) (ks := ks) (es := es)
    unfold lk at ih ⊢
    rw [List.map_cons, List.zip_cons_cons, List.zip_cons_cons]
    by_cases h : k' = k
    · rw [List.find?_cons_of_pos (by simp [h]), List.find?_cons_of_pos (by simp [h])]; rfl
    · rw [List.find?_cons_of_neg (by simp [h]), List.find?_cons_of_neg (by simp [h])]; exact ih
theorem memK_get {ks : List Key} {i : Nat} {k : Key} (h : ks[i]? = some k) : memK k ks = true := memK_iff.mpr (List.mem_of_getElem? h)
theorem memK_not {ks : List Key} {k : Key} (h : k ∉ ks) : ¬ memK k ks = true := fun z => h (memK_iff.mp z)
theorem dpK_new {ks : List Key} {k : Key} (h : k ∉ ks) : dpK ks k = ks ++ [k] := if_neg (memK_not h)
theorem dpV_new {α : Type} {ks : List Key} {es : List α} {k : Key} {e : α} (h : k ∉ ks) : dpV ks es k e = es ++ [e] := if_neg (memK_not h)
theorem dpK_old {ks : List Key} {k : Key} (h : k ∈ ks) : dpK ks k = ks := if_pos (memK_iff.mpr h)
theorem zip_same {α : Type} {k : Key} {e : α} : ∀ {ks : List Key} {es : List α}, k ∉ ks → ks.length = es.length → (ks.zip es).map (fun q => if q.1 = k then e else q.2) = es
  | [], [], _, _ => rfl
  | [], _ :: _, _, h => by simp at h
  | _ :: _, [], _, h => by simp at h
  | a :: ks, b :: es, hk, h => by
    simp only [List.mem_cons, not_or] at hk
    rw [List.zip_cons_cons, List.map_cons, zip_same hk.2 (by simpa using h), if_neg (fun z => hk.1 z.symm)]
theorem dpV_get {α : Type} : ∀ {ks : List Key} {es : List α} {i : Nat} {k : Key} {e : α}, ks.Nodup → ks[i]? = some k → ks.length = es.length → dpV ks es k e = es.set i e
  | [], _, _, _, _, _, h, _ => by simp at h
  | k' :: ks, [], _, _, _, _, _, h => by simp at h
  | k' :: ks, e' :: es, 0, k, e, hn, h1, h2 => by
    simp at h1
    subst h1
    have hk : k' ∉ ks := (List.nodup_cons.mp hn).1
    unfold dpV
    rw [if_pos (memK_iff.mpr List.mem_cons_self)]
    simp only [List.zip_cons_cons, List.map_cons, if_true, List.set_cons_zero, List.cons.injEq, true_and]
    exact zip_same hk (by simpa using h2)
  | k' :: ks, e' :: es, i + 1, k, e, hn, h1, h2 => by
    simp at h1
    have hk : k ∈ ks := List.mem_of_getElem? h1
    have hne : k' ≠ k := fun z => (List.nodup_cons.mp hn).1 (z ▸ hk)
    have ih := dpV_get (e := e) (List.nodup_cons.mp hn).2 h1 (by simpa using h2)
    unfold dpV at ih ⊢
    rw [if_pos (memK_iff.mpr hk)] at ih
    rw [if_pos (memK_iff.mpr (List.mem_cons_of_mem _ hk)), List.zip_cons_cons, List.map_cons, ih, if_neg hne, List.set_cons_succ]
theorem nodup_get {α : Type} {l : List α} {i j : Nat} {a : α} (h : l.Nodup) (h1 : l[i]? = some a) (h2 : l[j]? = some a) : i = j := by
  obtain ⟨l1, e1⟩ := List.getElem?_eq_some_iff.mp h1
  obtain ⟨l2, e2⟩ := List.getElem?_eq_some_iff.mp h2
  exact (List.getElem_inj h).mp (e1.trans e2.symm)
theorem notin_take {α : Type} {l : List α} {i : Nat} {a : α} (h : l.Nodup) (h1 : l[i]? = some a) : a ∉ l.take i := fun z => by
  obtain ⟨j, hj⟩ := List.getElem?_of_mem z
  have hl := (List.getElem?_eq_some_iff.mp hj).1
  rw [List.length_take] at hl
  rw [List.getElem?_take_of_lt (by omega)] at hj
  have := nodup_get h h1 hj
  omega
theorem take_snoc {α : Type} {l : List α} {i : Nat} {a : α} (h : l[i]? = some a) : l.take i ++ [a] = l.take (i + 1) := by
  rw [List.take_add_one, h]; rfl
theorem nodup_inr {ks : List Str} (h : ks.Nodup) : (ks.map (Sum.inr : Str → Key)).Nodup := by
  induction ks with
  | nil => exact List.nodup_nil
  | cons a ks ih =>
    rw [List.map_cons, List.nodup_cons]
    refine ⟨fun z => ?_, ih (List.nodup_cons.mp h).2⟩
    obtain ⟨b, h1, h2⟩ := List.mem_map.mp z
    cases h2
    exact (List.nodup_cons.mp h).1 h1
theorem notin_inr {ks : List Str} {x : Str} (h : x ∉ ks) : (Sum.inr x : Key) ∉ ks.map Sum.inr := fun z => by
  obtain ⟨b, h1, h2⟩ := List.mem_map.mp z
  cases h2
  exact h h1
/-! ### name = [..] on one line, pure -/
section
variable {elt iter : Expr} {scope : Scope} {own : List (Str × Nat)} {pos p : Pos} {x : Str} {j B : Nat}
theorem js_setLcP {i : Nat} {y : Str} {py spos : Pos} {P : Po} (bx : Bx X B) (ny : NmW X i y) (ly : X.env.scope.names.lookup y = some .local) (hsw : swapsWith (.ListComp elt [⟨.Name x p, iter, [], 0⟩] scope pos) (some (.Name y py)) spos.line X.env = pure true)
    (ok : BlkOk X.N X.env.scope scope own) (hj : j ∈ own.map (·.2)) (hn : ∀ Y, IsBlk X scope Y → NmW Y j x)
    (h : JI X F (.Name x p) iter s fun n it s1 => s1 = s ∧ n ≤ 16000000 ∧ ∃ f : Nat → D, (∀ i v acc, i < n → it i v → ∀ Y, IsBlk X scope Y → JE Y F elt (s.blk (own.map (·.2)) acc j v) fun y s3 => y = .d (f i) ∧ s3 = s.blk (own.map (·.2)) acc j v) ∧ P.nx (s.set i (.d (.nd .lst ((List.range n).map f)))))
    (hs : ∀ x, foldedSetIterable iter X.env x = pure x := by intro _; rfl) : JS X F (.Assign [.Name y py] (.ListComp elt [⟨.Name x p, iter, [], 0⟩] scope pos) spos) s P := fun as G H σ D c k =>
  PS.sem (ps_setLc bx.calm bx.nd ny.nm ly hsw (pi_sem X _ iter) ok (pg_B hn) pts_B pe_B hs) (lc_read (Φ := fun e1 s1 => ∃ ds, e1 = .r s.ce.length ∧ s1 = s.push .lst (ds.map .d) ∧ P.nx (s.set i (.d (.nd .lst ds)))) hj
    (fun as G H σ R c k => h as G H σ R c fun J as1 G1 H1 s1 n it c1 x1 okJ ⟨q1, q2, f, q3, q4⟩ => by
      subst q1
      refine k J as1 G1 H1 s1 n it c1 x1 okJ ⟨_, (lc_pure hj q2 q3).1, (lc_pure hj q2 q3).2, ?_⟩
      rintro acc s' ⟨rfl, rfl⟩
      exact ⟨_, rfl, rfl, q4⟩) as G H σ _ c fun v as1 G1 H1 e1 s1 c1 x1 ve ⟨ds, q1, q2, q3⟩ => by
    subst q1 q2
    obtain ⟨G2, c2, sg, rep⟩ := c.popFrz c1 x1
    obtain ⟨q, hq, rfl⟩ := ve
    exact k.nx as G2 H1 _ _ (c2.set (i := i) (e := .d (.nd .lst ds)) (rep q hq)) (x1.sub.trans sg) q3)
end
theorem XIs.gcS {P : Program} {w : World} {K : PySem.W.Frag} {mg : Str → Option Value} {base : Heap} {N : List Str} {sc : Scope} {k : Nat} {x z : Str} (hX : XIs X P w K mg base N sc k) (h : sc.names.lookup x = some .globalImplicit) (hm : ∃ u, mg x = some u ∧ RelV (.str z) u) (hd : (x == ("__debug__" : Str)) = false := by decide) : Gc X x (.str z) :=
  ⟨hX.gl h, let ⟨u, h1, h2⟩ := hm; ⟨.str z, u, by rw [hX.eM]; exact h1, h2, .str z⟩, hd⟩
theorem XIs.gcI {P : Program} {w : World} {K : PySem.W.Frag} {mg : Str → Option Value} {base : Heap} {N : List Str} {sc : Scope} {k : Nat} {x : Str} {i : Int} (hX : XIs X P w K mg base N sc k) (h : sc.names.lookup x = some .globalImplicit) (hm : ∃ u, mg x = some u ∧ RelV (.int i) u) (hd : (x == ("__debug__" : Str)) = false := by decide) : Gc X x (.int i) :=
  ⟨hX.gl h, let ⟨u, h1, h2⟩ := hm; ⟨.int i, u, by rw [hX.eM]; exact h1, h2, .int i⟩, hd⟩
/-- o[i] = v, o an owned list or an owned dict -/
theorem jg_setX {B : Nat} {o i : Expr} {v : E} {Φ : S → Prop} {p : Pos} (bx : Bx X B) (hH : X.H_0 = F.H0) (h : JE X F o s fun eo s1 => JE X F i s1 fun ei s2 =>
      (∃ k n es j, eo = .r k ∧ ei = .d (.int n) ∧ nth s2.ce k = some (.nd .lst es) ∧ ixN es.length n = some j ∧ Φ (s2.put k .lst (es.set j v))) ∨
      (∃ k ks es kk, eo = .r k ∧ keyE ei = some kk ∧ nth s2.ce k = some (.nd (.dct ks) es) ∧ s2.ar ≤ k ∧ es.length < sizeLine ∧ Φ (s2.put k (.dct (dpK ks kk)) (dpV ks es kk v))))
    (ha : ∀ v, assign (.Subscript o i p) X.env v = (do
      let ov ← holding [v] (eval o X.env)
      let iv ← holding [v, ov] (eval i X.env)
      standAt p
      holding [v, ov, iv] (setItem ov iv v)
      release [v, ov, iv] []) := by intro _; rfl) : JG X F (.Subscript o i p) v s Φ :=
  fun as G H σ u Q c ve k => PG.sem (pg_sub (t := fun a b c H Q => rSetL a b c H Q ∨ _) (pe_sem X o) (pe_sem X i) (fun pins st σ H o i v ov iv u Q I ro ri rv h => h.elim (set_list pins st σ H o i v ov iv u Q I ro ri rv) (set_dictZ bx.hu pins st σ H o i v ov iv u Q I ro ri rv)) ha) (h as G H σ _ c fun v1 as1 G1 H1 e1 s1 c1 x1 ve1 h1 => h1 as1 G1 H1 σ _ c1 fun v2 as2 G2 H2 e2 s2 c2 x2 ve2 hq => by
    rcases hq with ⟨kk, n, es, j, q1, q2, q3, q4, q5⟩ | ⟨j, ks, es, kk, q1, q2, q3, q4, q5, q6⟩
    · refine .inl ?_
      subst q1 q2
      cases ve2
      obtain ⟨a, ha, rfl⟩ := x2.ve ve1
      rw [nth_eq] at q3
      obtain ⟨a', vs, g1, g2, g3⟩ := c2.cells kk _ _ q3
      rw [ha] at g1
      cases g1
      have g2' : H2 a = some (.lst vs) := g2
      have hl := Paired.length g3
      refine ⟨a, vs, n, j, rfl, rfl, g2', by rw [hl]; exact q4, ?_⟩
      have vu := (x1.trans x2).ve ve
      have hv : VEs X.K G2 as2 (vs.set j u) (es.set j v) := by
        clear q4 q5 g2' g2 hl q3
        induction g3 generalizing j with
        | nil => exact .nil
        | cons r t ih =>
          cases j with
          | zero => exact .cons vu t
          | succ j => exact .cons r (ih j)
      exact k as2 G2 _ σ _ (c2.put (kd := .lst) q3 ha upd_same hv) (x1.trans x2) q5
    · refine .inr ?_
      subst q1
      obtain rfl := keyE_v q2 ve2
      obtain ⟨a, ha, rfl⟩ := x2.ve ve1
      rw [nth_eq] at q3
      obtain ⟨a', vs, g1, ⟨g2, g3, od, g4⟩, g5⟩ := c2.cells j _ _ q3
      rw [ha] at g1
      cases g1
      have hl := Paired.length g5
      have nA : a ∉ F.A0 := fun z => by
        obtain ⟨l, hl⟩ := List.getElem?_of_mem z
        have q := pre_get c2.pre hl
        obtain ⟨l1, e1⟩ := List.getElem?_eq_some_iff.mp q
        obtain ⟨l2, e2⟩ := List.getElem?_eq_some_iff.mp ha
        have := (List.getElem_inj c2.nd).mp (e1.trans e2.symm)
        have l3 := (List.getElem?_eq_some_iff.mp hl).1
        rw [c2.har] at l3
        omega
      have h0 : F.H0 a = none := (c2.fresh a (List.mem_of_getElem? ha)).resolve_left nA
      refine ⟨a, od, _, kk, rfl, rfl, g4, fun o' u' z => (by rw [hH, h0] at z; cases z), by rw [List.length_zip, g2, Nat.min_self, hl]; exact q5, fun od' => ?_⟩
      rw [putK_zip g2]
      exact k as2 G2 _ σ _ (c2.put (kd := .dct (dpK ks kk)) q3 ha ⟨dpV_len g2, dpK_nodup g3, od', upd_same⟩ (ves_dpV ((x1.trans x2).ve ve) g5)) (x1.trans x2) q6)
theorem range_getD {α β : Type} (g : α → β) (d : α) (ys : List α) : (List.range ys.length).map (fun i => g (ys.getD i d)) = ys.map g := by
  apply List.ext_getElem?
  intro i
  rw [List.getElem?_map, List.getElem?_map]
  by_cases h : i < ys.length
  · rw [List.getElem?_range h, List.getElem?_eq_getElem h]
    simp [List.getD, List.getElem?_eq_getElem h]
  · rw [List.getElem?_eq_none (by simpa using h), List.getElem?_eq_none (by omega)]
    rfl
theorem dcF_getD {α : Type} {g : α → Key} {f : α → D} {d : α} {ys : List α} (h : (ys.map g).Nodup) : dcF (fun i => g (ys.getD i d)) (fun i => f (ys.getD i d)) ys.length = (ys.map g, ys.map f) := by
  rw [dcF_inj, range_getD, range_getD]
  intro i j hij hj e
  have hi : i < ys.length := by omega
  have h1 : (ys.map g)[i]? = some (g (ys.getD i d)) := by rw [List.getElem?_map, List.getElem?_eq_getElem hi]; simp [List.getD, List.getElem?_eq_getElem hi]
  have h2 : (ys.map g)[j]? = some (g (ys.getD j d)) := by rw [List.getElem?_map, List.getElem?_eq_getElem hj]; simp [List.getD, List.getElem?_eq_getElem hj]
  have e : g (ys.getD i d) = g (ys.getD j d) := e
  rw [e] at h1
  have := nodup_get h h1 h2
  omega
theorem getD_at {α : Type} {d : α} {ys : List α} {i : Nat} {x : α} (h : ys[i]? = some x) : ys.getD i d = x := by
  simp [List.getD, h]
def leavesB : List Stmt → Bool
  | [] => false
  | [.Return _ _] => true
  | [.Break _] => true
  | [.Continue _] => true
  | [.Raise _ _ _] => true
  | _ :: r => leavesB r
/-- an if whose block ends by leaving -/
theorem jss_ifL {c : Expr} {t sts : List Stmt} {pos : Pos} {P : Po} (hl : leavesB t = true) (h : JT X F c s fun k s1 => if k = true then JSs X F t s1 (P.then fun s1 => JSs X F sts s1 P) else JSs X F sts s1 P) : JSs X F (.If c t [] pos :: sts) s P :=
  jss_cons (js_if (fun as G H σ Q cz k => h as G H σ Q cz fun b as' G' H' s' c' x q => k b as' G' H' s' c' x (by
    cases b with
    | true => exact q
    | false => exact jss_nilT (P := P) (N := fun s1 => JSs X F sts s1 P) q)))
section
variable {e : E} {Φ : E → S → Prop}
theorem jr_isT {b : Bool} (h : isBl b e = true) (q : Φ (.d (.bl true)) s) : JR X F (compareOp .Is) e (.d (.bl b)) s Φ := jr_isBl (by rw [h]; exact q)
theorem jr_isF {b : Bool} (h : isBl b e = false) (q : Φ (.d (.bl false)) s) : JR X F (compareOp .Is) e (.d (.bl b)) s Φ := jr_isBl (by rw [h]; exact q)
theorem jr_isNT (h : isNon e = true) (q : Φ (.d (.bl true)) s) : JR X F (compareOp .Is) e (.d .non) s Φ := jr_isN (by rw [h]; exact q)
theorem jr_isNF (h : isNon e = false) (q : Φ (.d (.bl false)) s) : JR X F (compareOp .Is) e (.d .non) s Φ := jr_isN (by rw [h]; exact q)
theorem jr_notNT (h : isNon e = true) (q : Φ (.d (.bl false)) s) : JR X F (compareOp .IsNot) e (.d .non) s Φ := jr_notN (by rw [h]; exact q)
theorem jr_notNF (h : isNon e = false) (q : Φ (.d (.bl true)) s) : JR X F (compareOp .IsNot) e (.d .non) s Φ := jr_notN (by rw [h]; exact q)
theorem jr_eqiS {i : Int} (q : Φ (.d (.bl true)) s) : JR X F (compareOp .Eq) (.d (.int i)) (.d (.int i)) s Φ := jr_eqi (by rw [decide_eq_true rfl]; exact q)
theorem jr_eqsS {i : Str} (q : Φ (.d (.bl true)) s) : JR X F (compareOp .Eq) (.d (.str i)) (.d (.str i)) s Φ := jr_eqs (by rw [decide_eq_true rfl]; exact q)
theorem jr_eqbS {i : Bool} (q : Φ (.d (.bl true)) s) : JR X F (compareOp .Eq) (.d (.bl i)) (.d (.bl i)) s Φ := jr_eqb (by rw [decide_eq_true rfl]; exact q)
theorem jr_nebS {i : Bool} (q : Φ (.d (.bl false)) s) : JR X F (compareOp .NotEq) (.d (.bl i)) (.d (.bl i)) s Φ := jr_neb (by rw [decide_eq_true rfl]; exact q)
end
theorem lk_memK {α : Type} {ks : List Key} {es : List α} {k : Key} {e : α} (h : lk (ks.zip es) k = some e) : memK k ks = true := by
  unfold lk at h
  cases q : (ks.zip es).find? fun kv => decide (kv.1 = k) with
  | none => rw [q] at h; cases h
  | some p =>
    have h1 := List.mem_of_find?_eq_some q
    have h2 := List.find?_some q
    have h3 : p.1 = k := of_decide_eq_true h2
    exact memK_iff.mpr (h3 ▸ (List.of_mem_zip h1).1)
theorem kit_NoneType_dict : kitB "NoneType" "dict" = some false := by decide +kernel
theorem kit_NoneType_list : kitB "NoneType" "list" = some false := by decide +kernel
theorem kit_NoneType_tuple : kitB "NoneType" "tuple" = some false := by decide +kernel
theorem kit_NoneType_str : kitB "NoneType" "str" = some false := by decide +kernel
theorem kit_NoneType_int : kitB "NoneType" "int" = some false := by decide +kernel
theorem kit_NoneType_bool : kitB "NoneType" "bool" = some false := by decide +kernel
theorem kit_bool_dict : kitB "bool" "dict" = some false := by decide +kernel
theorem kit_bool_list : kitB "bool" "list" = some false := by decide +kernel
theorem kit_bool_tuple : kitB "bool" "tuple" = some false := by decide +kernel
theorem kit_bool_str : kitB "bool" "str" = some false := by decide +kernel
theorem kit_bool_int : kitB "bool" "int" = some true := by decide +kernel
theorem kit_bool_bool : kitB "bool" "bool" = some true := by decide +kernel
theorem kit_int_dict : kitB "int" "dict" = some false := by decide +kernel
theorem kit_int_list : kitB "int" "list" = some false := by decide +kernel
theorem kit_int_tuple : kitB "int" "tuple" = some false := by decide +kernel
theorem kit_int_str : kitB "int" "str" = some false := by decide +kernel
theorem kit_int_int : kitB "int" "int" = some true := by decide +kernel
theorem kit_int_bool : kitB "int" "bool" = some false := by decide +kernel
theorem kit_str_dict : kitB "str" "dict" = some false := by decide +kernel
theorem kit_str_list : kitB "str" "list" = some false := by decide +kernel
theorem kit_str_tuple : kitB "str" "tuple" = some false := by decide +kernel
theorem kit_str_str : kitB "str" "str" = some true := by decide +kernel
theorem kit_str_int : kitB "str" "int" = some false := by decide +kernel
theorem kit_str_bool : kitB "str" "bool" = some false := by decide +kernel
theorem kit_tuple_dict : kitB "tuple" "dict" = some false := by decide +kernel
theorem kit_tuple_list : kitB "tuple" "list" = some false := by decide +kernel
theorem kit_tuple_tuple : kitB "tuple" "tuple" = some true := by decide +kernel
theorem kit_tuple_str : kitB "tuple" "str" = some false := by decide +kernel
theorem kit_tuple_int : kitB "tuple" "int" = some false := by decide +kernel
theorem kit_tuple_bool : kitB "tuple" "bool" = some false := by decide +kernel
theorem kit_list_dict : kitB "list" "dict" = some false := by decide +kernel
theorem kit_list_list : kitB "list" "list" = some true := by decide +kernel
theorem kit_list_tuple : kitB "list" "tuple" = some false := by decide +kernel
theorem kit_list_str : kitB "list" "str" = some false := by decide +kernel
theorem kit_list_int : kitB "list" "int" = some false := by decide +kernel
theorem kit_list_bool : kitB "list" "bool" = some false := by decide +kernel
theorem kit_dict_dict : kitB "dict" "dict" = some true := by decide +kernel
theorem kit_dict_list : kitB "dict" "list" = some false := by decide +kernel
theorem kit_dict_tuple : kitB "dict" "tuple" = some false := by decide +kernel
theorem kit_dict_str : kitB "dict" "str" = some false := by decide +kernel
theorem kit_dict_int : kitB "dict" "int" = some false := by decide +kernel
theorem kit_dict_bool : kitB "dict" "bool" = some false := by decide +kernel
end DL
namespace DL
open PySem PySem.Spec PyProof.Rows L2
variable {X : Cx} {F : Fr} {s : S}
variable {e a b c : Expr} {es rest : List Expr} {Φ : E → S → Prop} {pos p p2 : Pos} {x : Str} {k B : Nat}
/-- no owned thing among them -/
def allD : List E → Bool
  | [] => true
  | .d _ :: r => allD r
  | .r _ :: _ => false
theorem allD_eq {s : S} : ∀ {vs : List E} {ds : List D}, allD vs = true → s.views vs = some ds → dsOf vs = some ds
  | [], ds, _, h => by cases h; rfl
  | .r _ :: _, _, h, _ => by cases h
  | .d y :: r, ds, h, q => by
    unfold S.views at q
    cases q2 : s.views r with
    | none => rw [q2] at q; simp [S.view] at q
    | some ds' =>
      rw [q2] at q
      simp [S.view] at q
      subst q
      have := allD_eq (vs := r) h q2
      rw [dsOf_eq this]
      exact dsOf_map (y :: ds')
def RtX (Φ : E → S → Prop) (s : S) (vs : List E) (r : Rt) : Prop := match allD vs with
  | true => RtΦ Φ s r
  | false => r.imm = true ∧ RtΦ Φ s r
theorem RtX.ofP {s : S} {vs : List E} {r : Rt} (h : RtX Φ s vs r) (hd : allD vs = true) : RtΦ Φ s r := by unfold RtX at h; rw [hd] at h; exact h
theorem RtX.ofB {s : S} {vs : List E} {r : Rt} (h : RtX Φ s vs r) (hd : allD vs = false) : r.imm = true ∧ RtΦ Φ s r := by unfold RtX at h; rw [hd] at h; exact h
theorem rtX_P {vs : List E} {r : Rt} (h : RtΦ Φ s r) (hd : allD vs = true) : RtX Φ s vs r := by unfold RtX; rw [hd]; exact h
theorem rtX_B {vs : List E} {r : Rt} (hi : r.imm = true) (h : RtΦ Φ s r) : RtX Φ s vs r := by
  unfold RtX
  cases allD vs with
  | true => exact h
  | false => exact ⟨hi, h⟩
theorem ex_views {vs : List E} {ds : List D} {Q : List D → Prop} (h : s.views vs = some ds) (q : Q ds) : ∃ ds, s.views vs = some ds ∧ Q ds := ⟨ds, h, q⟩
theorem views_nil : s.views [] = some [] := rfl
theorem views_d {y : D} {r : List E} {ds : List D} (h : s.views r = some ds) : s.views (.d y :: r) = some (y :: ds) := by unfold S.views; rw [h]; rfl
theorem views_l {j : Nat} {es : List E} {ds rs : List D} {r : List E} (h1 : nth s.ce j = some (.nd .lst es)) (h2 : dsOf es = some ds) (h : s.views r = some rs) : s.views (.r j :: r) = some (.nd .lst ds :: rs) := by
  have e : s.view (.r j) = some (.nd .lst ds) := by
    show (match nth s.ce j with
      | some (.nd .lst es) => (dsOf es).map (D.nd .lst)
      | some (.nd (.dct ks) es) => (dsOf es).map (D.nd (.dct ks))
      | _ => (none : Option D)) = _
    rw [h1]; show (dsOf es).map _ = _; rw [h2]; rfl
  unfold S.views; rw [h, e]
theorem views_k {j : Nat} {ks : List Key} {es : List E} {ds rs : List D} {r : List E} (h1 : nth s.ce j = some (.nd (.dct ks) es)) (h2 : dsOf es = some ds) (h : s.views r = some rs) : s.views (.r j :: r) = some (.nd (.dct ks) ds :: rs) := by
  have e : s.view (.r j) = some (.nd (.dct ks) ds) := by
    show (match nth s.ce j with
      | some (.nd .lst es) => (dsOf es).map (D.nd .lst)
      | some (.nd (.dct ks) es) => (dsOf es).map (D.nd (.dct ks))
      | _ => (none : Option D)) = _
    rw [h1]; show (dsOf es).map _ = _; rw [h2]; rfl
  unfold S.views; rw [h, e]
/-- .. as a step -/
def VwK (s : S) (vs : List E) (Q : List D → Prop) : Prop := ∃ ds, s.views vs = some ds ∧ Q ds
theorem vk_nil {Q : List D → Prop} (q : Q []) : VwK s [] Q := ⟨[], rfl, q⟩
theorem vk_d {y : D} {r : List E} {Q : List D → Prop} (q : VwK s r fun ds => Q (y :: ds)) : VwK s (.d y :: r) Q := let ⟨ds, h, q⟩ := q; ⟨_, views_d h, q⟩
theorem vk_l {j : Nat} {es : List E} {ds : List D} {r : List E} {Q : List D → Prop} (h1 : nth s.ce j = some (.nd .lst es)) (h2 : dsOf es = some ds) (q : VwK s r fun rs => Q (.nd .lst ds :: rs)) : VwK s (.r j :: r) Q := let ⟨_, h, q⟩ := q; ⟨_, views_l h1 h2 h, q⟩
theorem vk_k {j : Nat} {ks : List Key} {es : List E} {ds : List D} {r : List E} {Q : List D → Prop} (h1 : nth s.ce j = some (.nd (.dct ks) es)) (h2 : dsOf es = some ds) (q : VwK s r fun rs => Q (.nd (.dct ks) ds :: rs)) : VwK s (.r j :: r) Q := let ⟨_, h, q⟩ := q; ⟨_, views_k h1 h2 h, q⟩
/-- a call of a def that owns none of its arguments: frozen ones, or owned ones that it only reads -/
theorem je_callX {R : RP} (cb : CbP X x k R) (bx : Bx X B) (hB : k ≤ B)
    (h : JA X F (a :: es) s fun vs s1 => VwK s1 vs fun ds => R ds fun r => RtX Φ s1 vs r) (hdb : (x == ("__debug__" : Str)) = false := by decide) (he : starEach (a :: es) X.env = (false, eval a X.env) :: starEach es X.env := by rfl)
    (hpl : (backTo pos (starEach es X.env)).any (·.1) = false := by rfl) : JE X F (.Call (.Name x p) (a :: es) [] pos) s Φ := by
  obtain ⟨f, fd, ps, h1, h2, h3, h4⟩ := cb.ex
  refine je_of (pe_call h4 (bx.room.mono hB) cb.gl h1 h2 h3 .nil pass0 (pa_sem X _) hdb he hpl) fun as G H σ Q c kk => h as G H σ _ c fun vs as1 G1 H1 es1 s1 c1 x1 ves ⟨ds, e1, hR⟩ => ?_
  rw [List.append_nil]
  cases hd : allD es1 with
  | true =>
    rw [dsOf_eq (allD_eq hd e1)] at ves
    refine ⟨G1, ds, c1.sub, ves.reps, cb.mono ds _ _ (fun r hr0 v G' H' q1 q2 q3 q4 q5 => ?_) hR⟩
    have hr := hr0.ofP hd
    have c2 := c1.call q1 q2 q3 q4
    have x2 : Ext as1 as1 G1 G' := ⟨List.prefix_refl _, q2⟩
    cases r with
    | dat y => exact kk v as1 G' H' (.d y) s1 c2 (x1.trans x2) q5 hr
    | new kd ds' =>
      obtain ⟨b, ws, rfl, w1, w2, w3, w4⟩ := q5
      have c3 := c2.grow (kd := kd) (es := ds'.map .d) w2 (c1.notin w1) (c1.h0none w1) w3 (VEs.ofReps w4)
      exact kk _ _ G' H' (.r s1.ce.length) _ c3 ((x1.trans x2).trans ⟨pre_snoc, Same.refl _⟩) ⟨b, by rw [← c1.len, List.getElem?_append_right (Nat.le_refl _)]; simp, rfl⟩ hr
  | false =>
    refine ⟨lend s1 as1 G1 H1, ds, lend_in c1.sub, c1.views ves e1, cb.mono ds _ _ (fun r hr0 v G' H' q1 q2 q3 q4 q5 => ?_) hR⟩
    obtain ⟨hi, hr⟩ := hr0.ofB hd
    -- what is frozen behind: G' without the owned
    obtain ⟨G2, hG2, hG3⟩ : ∃ G2 : Hp, (∀ b, Alive s1 as1 b → G2 b = none) ∧ ∀ b, ¬ Alive s1 as1 b → G2 b = G' b := by
      classical
      exact ⟨fun b => if Alive s1 as1 b then none else G' b, fun b h => if_pos h, fun b h => if_neg h⟩
    have ga : ∀ {b : Addr}, Alive s1 as1 b → G1 b = none := fun {b} ⟨k, kd, es, w1, w2⟩ => c1.own k b _ _ w1 w2
    have s1' : Same G1 G2 := fun b o q => by
      rw [hG3 b (fun z => by rw [ga z] at q; cases q)]
      exact q2 b o (lend_sub b o q)
    have s2' : Same G2 H' := fun b o q => by
      by_cases hb : Alive s1 as1 b
      · rw [hG2 b hb] at q; cases q
      · rw [hG3 b hb] at q; exact q3 b o q
    have s4' : ∀ b, G1 b = none → H1 b ≠ none → G2 b = none := fun b w1 w2 => by
      by_cases hb : Alive s1 as1 b
      · exact hG2 b hb
      · rw [hG3 b hb]
        exact q4 b (lend_no w1 hb) w2
    have c2 := c1.call q1 s1' s2' s4'
    have x2 : Ext as1 as1 G1 G2 := ⟨List.prefix_refl _, s1'⟩
    -- a tuple is no owned cell
    have tups : ∀ a vs, Rd G' a (.tup vs) → Rd G2 a (.tup vs) := fun b ws hb => by
      have nb : ¬ Alive s1 as1 b := fun z => by
        have w0 := ga z
        obtain ⟨j, kd, es, hj, hcl⟩ := z
        obtain ⟨b', us, g1, g2, g3⟩ := c1.cells j _ _ hcl
        rw [hj] at g1
        cases g1
        obtain ⟨o, ho⟩ := g2.some
        have hG' : G' b = some o := q2 b o (by rw [lend_yes w0 ⟨j, kd, es, hj, hcl⟩]; exact ho)
        have g2' : CellAt G' b us kd := g2.keep fun u q => by rw [ho] at q; cases q; exact hG'
        rcases hb with hb | ⟨oo, hb⟩
        · cases kd with
          | tup => exact g2'
          | lst => have : G' b = some (.lst us) := g2'; rw [hb] at this; cases this
          | dct ks => obtain ⟨_, _, _, this⟩ := g2'; rw [hb] at this; cases this
          | ins C fs => obtain ⟨_, _, this⟩ := g2'; rw [hb] at this; cases this
        · cases kd with
          | tup => exact g2'
          | lst => have : G' b = some (.lst us) := g2'; rw [hb] at this; cases this
          | dct ks => obtain ⟨_, _, _, this⟩ := g2'; rw [hb] at this; cases this
          | ins C fs => obtain ⟨_, _, this⟩ := g2'; rw [hb] at this; cases this
      rcases hb with hb | ⟨oo, hb⟩
      · exact .inl (by rw [hG3 b nb]; exact hb)
      · exact .inr ⟨oo, by rw [hG3 b nb]; exact hb⟩
    cases r with
    | dat y => exact kk v as1 G2 H' (.d y) s1 c2 (x1.trans x2) (imm_keep tups _ _ q5 hi) hr
    | new kd ds' =>
      obtain ⟨b, ws, rfl, w1, w2, w3, w4⟩ := q5
      have gb : G2 b = none := by
        by_cases hb : Alive s1 as1 b
        · exact hG2 b hb
        · rw [hG3 b hb]; exact w2
      have c3 := c2.grow (kd := kd) (es := ds'.map .d) gb (c1.notin w1) (c1.h0none w1) w3 (VEs.ofReps (imm_keeps tups _ _ w4 hi))
      exact kk _ _ G2 H' (.r s1.ce.length) _ c3 ((x1.trans x2).trans ⟨pre_snoc, Same.refl _⟩) ⟨b, by rw [← c1.len, List.getElem?_append_right (Nat.le_refl _)]; simp, rfl⟩ hr
theorem fz_map {k : Nat} {x : D} (ds : List D) : (ds.map E.d).map (E.fz k x) = ds.map E.d := by
  rw [List.map_map]; rfl
theorem ints_imm {α : Type} (f : α → Int) (l : List α) (n : Int) : D.imms (l.map (fun a => .int (f a)) ++ [.int n]) = true := by
  induction l with
  | nil => rfl
  | cons a l ih => show (true && D.imms (l.map (fun a => .int (f a)) ++ [.int n])) = true; rw [ih]; rfl
/-- freezing, the state told anew -/
theorem jss_frz' {sts : List Stmt} {P : Po} {k : Nat} {kd : Kd} {es : List E} {ds : List D} {s' : S} (h1 : nth s.ce k = some (.nd kd es)) (h2 : dsOf es = some ds) (h3 : ∀ C fs, kd ≠ .ins C fs) (h4 : s.ar ≤ k) (e : s.fz k (.nd kd ds) = s') (h : JSs X F sts s' P) : JSs X F sts s P :=
  jss_frz h1 h2 h3 h4 (e ▸ h)
end DL
namespace DL
open PySem PySem.Spec PyProof.Rows L2
variable {X : Cx} {F : Fr} {s : S}
variable {e a b c : Expr} {es rest : List Expr} {Φ : E → S → Prop} {pos p p2 : Pos} {x : Str} {k B : Nat}
/-! ### a module's name for a built-in function -/
structure GlF (X : Cx) (x : Str) (id : String) : Prop where
  gl : Gl X x
  mg : X.mg x = some (.builtin id)
theorem XIs.glf {P : Program} {w : World} {K : PySem.W.Frag} {mg : Str → Option Value} {base : Heap} {N : List Str} {sc : Scope} {k : Nat} {x : Str} {id : String} (h : XIs X P w K mg base N sc k) (h1 : sc.names.lookup x = some .globalImplicit) (h2 : mg x = some (.builtin id)) : GlF X x id := ⟨h.gl h1, by rw [h.eM]; exact h2⟩
theorem je_gcd (g : GlF X x "math.gcd") (h : JE X F a s fun e1 s1 => JE X F b s1 fun e2 s2 => ∃ i j : Int, e1 = .d (.int i) ∧ e2 = .d (.int j) ∧ Φ (.d (.int (Int.gcd i j : Nat))) s2) (hdb : (x == ("__debug__" : Str)) = false := by decide)
    (ns : NoStar a := by intro _ _; rfl) (ns2 : NoStar b := by intro _ _; rfl) : JE X F (.Call (.Name x p) [a, b] [] pos) s Φ :=
  je_of (pe_callBfun cr_gcd g.gl g.mg (pa_cons (pe_sem X a) (pa_cons (pe_sem X b) pa_nil (ns2 _ _)) (ns _ _)) hdb (by rw [ns, ns2]) (by rw [ns2]; rfl)) fun as G H σ Q c k =>
    h as G H σ _ c fun v1 as1 G1 H1 e1 s1 c1 x1 ve1 h1 => h1 as1 G1 H1 σ _ c1 fun v2 as2 G2 H2 e2 s2 c2 x2 ve2 ⟨i, j, q1, q2, q⟩ => by
      subst q1 q2
      cases ve1
      cases ve2
      exact ⟨i, j, rfl, k _ as2 G2 H2 _ s2 c2 (x1.trans x2) (Rep.int _) q⟩
/-! ### operators -/
def CDivZ (_ j : Int) : Prop := j ≠ 0 ∧ j.natAbs.log2 < 9000
theorem op_fdivZ : OpR X (binaryOp .FloorDiv) (rI CDivZ fun i j => .int (i.fdiv j)) := opI fun i j _ _ _ _ _ hc q => floordiv_int hc.1 q (.inl (PyProof.noPylong_of_log2 hc.2))
theorem jr_fdivZ {i j : Int} (hc : CDivZ i j) (q : Φ (.d (.int (i.fdiv j))) s) : JR X F (binaryOp .FloorDiv) (.d (.int i)) (.d (.int j)) s Φ := jr_ii op_fdivZ hc (.int _) q
/-- pairs of ints compared -/
def rq2 (i j : Int) : D := .nd .tup [.int i, .int j]
/-- a text some times -/
def repS (z : Str) (n : Nat) : Str := ⟨(List.replicate n z.cps).foldl (· ++ ·) #[]⟩
theorem repS_len (z : Str) : ∀ n, (repS z n).length = n * z.length := by
  have key : ∀ (n : Nat) (acc : Array Nat), ((List.replicate n z.cps).foldl (· ++ ·) acc).size = acc.size + n * z.cps.size := by
    intro n
    induction n with
    | zero => intro acc; simp
    | succ n ih =>
      intro acc
      rw [List.replicate_succ, List.foldl_cons, ih, Array.size_append, Nat.add_mul]
      omega
  intro n
  show ((List.replicate n z.cps).foldl (· ++ ·) #[]).size = _
  rw [key]
  show 0 + _ = _
  rw [Nat.zero_add]; rfl
def rMulS : R2 := fun x y H Q => ∃ z n, x = .str z ∧ y = .int n ∧ z.length ≤ 1000 ∧ 0 ≤ n ∧ n ≤ 1000 ∧ Q (.str (repS z n.toNat)) H
theorem op_mulS : OpR X (binaryOp .Mult) rMulS := by
  intro pins st σ H x y v u Q I rx ry h
  obtain ⟨z, n, rfl, rfl, h1, h2, h3, q⟩ := h
  obtain ⟨t, rfl⟩ := rx
  obtain ⟨t2, rfl⟩ := ry
  have hmul : z.length * n.toNat ≤ 1000000 := Nat.le_trans (Nat.mul_le_mul h1 (show n.toNat ≤ 1000 by omega)) (by decide)
  refine PySem.P.mul_str (by simp; omega) (fun hn hz => ?_) (fun hn hz => ?_) ?_
  · have h4 : (1000 : Int) ≤ (2 ^ 63 - 1) / n := Int.le_ediv_of_mul_le (by omega) (by omega)
    omega
  · have : z.length * n.toNat ≤ sizeLine := Nat.le_trans hmul (by rw [sizeLine_eq]; decide)
    exact decide_eq_false (by omega)
  · by_cases h0 : n < 1
    · have : n = 0 := by omega
      subst this
      rw [if_pos (by decide)]
      exact ⟨by decide, ⟨.str _, H, I.tok _, ⟨_, rfl⟩, q⟩⟩
    · rw [if_neg h0]
      by_cases h5 : (n == 1 || z.length == 0) = true
      · rw [if_pos h5]
        have e : repS z n.toNat = z := by
          rcases Bool.or_eq_true_iff.mp h5 with h6 | h6
          · have : n = 1 := by simpa using h6
            subst this
            show (⟨#[] ++ z.cps⟩ : Str) = z
            rw [Array.empty_append]
          · have h7 : z.length = 0 := by simpa using h6
            have h8 := repS_len z n.toNat
            rw [h7, Nat.mul_zero] at h8
            obtain ⟨cz⟩ := z
            have a1 : cz = #[] := Array.eq_empty_of_size_eq_zero h7
            have a2 : (repS ⟨cz⟩ n.toNat).cps = #[] := Array.eq_empty_of_size_eq_zero h8
            subst a1
            exact congrArg Str.mk a2
        rw [e] at q
        exact ⟨.str z, H, I, ⟨_, rfl⟩, q⟩
      · rw [if_neg h5]
        refine ⟨?_, ⟨.str _, H, I.tok _, ⟨_, rfl⟩, q⟩⟩
        show (repS z n.toNat).length ≤ _
        rw [repS_len, Nat.mul_comm]
        exact Nat.le_trans hmul (by rw [sizeLine_eq]; decide)
theorem jr_mulS {z : Str} {n : Int} (h1 : z.length ≤ 1000) (h2 : 0 ≤ n ∧ n ≤ 1000) (q : Φ (.d (.str (repS z n.toNat))) s) : JR X F (binaryOp .Mult) (.d (.str z)) (.d (.int n)) s Φ :=
  jr_of op_mulS fun as G H σ x y Q c v1 v2 k => by
    cases v1
    cases v2
    exact ⟨z, n, rfl, rfl, h1, h2.1, h2.2, k _ as G H _ s c (Ext.refl _ _) (Rep.str _) q⟩
/-! ### list(x), dict(x): new, frozen -/
theorem je_listD (g : GlB X "list") (h : JE X F a s fun e s1 => ∃ kd ds, s1.node e = some (kd, ds.map .d) ∧ (kd = .lst ∨ kd = .tup) ∧ Φ (.d (.nd .lst ds)) s1) (ns : NoStar a := by intro _ _; rfl) : JE X F (.Call (.Name "list" p) [a] [] pos) s Φ :=
  je_new (kd := .lst) (jn_listS g (h.mono fun e s1 ⟨kd, ds, h1, h2, h3⟩ => ⟨kd, _, h1, h2, rfl, ds, dsOf_map ds, h3⟩) ns) (.inr rfl)
theorem je_tupleD (g : GlB X "tuple") (h : JE X F a s fun e s1 => ∃ ds, s1.node e = some (.lst, ds.map .d) ∧ Φ (.d (.nd .tup ds)) s1) (ns : NoStar a := by intro _ _; rfl) : JE X F (.Call (.Name "tuple" p) [a] [] pos) s Φ :=
  je_new (kd := .tup) (jn_tupleL g (h.mono fun e s1 ⟨ds, h1, h3⟩ => ⟨_, h1, rfl, ds, dsOf_map ds, h3⟩) ns) (.inl rfl)
theorem je_dictD (g : GlB X "dict") (h : JE X F a s fun e s1 => ∃ ks ds, s1.node e = some (.dct ks, ds.map .d) ∧ Φ (.d (.nd (.dct ks) ds)) s1) (ns : NoStar a := by intro _ _; rfl) : JE X F (.Call (.Name "dict" p) [a] [] pos) s Φ := fun as G H σ Q c k =>
  sem_lock (PE.sem (pe_callTy call_dictD g.gl g.mg PyProof.Rows.boot_dict (pa_cons (pe_sem X a) pa_nil (ns _ _)) (he := ns _ _)) (h as G H σ _ c fun v as1 G1 H1 e1 s1 c1 x1 ve ⟨ks, ds, h1, h2⟩ => by
    obtain ⟨d, vs, rfl, ⟨n1, n2, od, n3⟩, ves⟩ := c1.node ve h1
    refine ⟨d, _, rfl, .inr ⟨od, n3⟩, fun q hq => ⟨q, _, upd_same, trivial, fun od' => ?_⟩⟩
    rw [upd_upd]
    have sg : Same G1 (upd G1 q (.frz od' (.dK (ks.zip vs)))) := same_new (c1.gnone hq)
    exact k _ as1 _ _ (.d (.nd (.dct ks) ds)) s1 (c1.addG hq) (x1.trans ⟨List.prefix_refl _, sg⟩) (.nd ⟨n1, n2, od', upd_same⟩ (ves.reps.mono sg)) h2))
/-- d.get(k, x) -/
theorem je_get2 {o : Expr} {apos : Pos} (bx : Bx X B) (h : JE X F o s fun eo s1 => (∃ kd0 es0, s1.node eo = some (.dct kd0, es0)) ∧ JE X F a s1 fun e1 s2 => JE X F b s2 fun e2 s3 => ∃ ks es kk, s3.node eo = some (.dct ks, es) ∧ keyE e1 = some kk ∧ Φ ((lk (ks.zip es) kk).getD e2) s3) (m : M2 X o "get" apos a b pos) :
    JE X F (.Call (.Attribute o "get" apos) [a, b] [] pos) s Φ :=
  je_of (pe_dget2 bx.hu (pe_sem X o) (pe_sem X a) (pe_sem X b) m) fun as G H σ Q c k => h as G H σ _ c fun v as1 G1 H1 eo s1 c1 x1 ve ⟨⟨kd0, es0, hn⟩, h1⟩ => by
    obtain ⟨d, vs0, rfl, ⟨m1, m2, od0, m3⟩, _⟩ := c1.node ve hn
    refine ⟨d, rfl, .inl ⟨_, .inr ⟨od0, m3⟩⟩, h1 as1 G1 H1 σ _ c1 fun v2 as2 G2 H2 e1 s2 c2 x2 ve2 h2 => h2 as2 G2 H2 σ _ c2 fun v3 as3 G3 H3 e2 s3 c3 x3 ve3 ⟨ks, es, kk, q1, q2, q3⟩ => ?_⟩
    obtain ⟨d', vs, e', ⟨n1, n2, od, n3⟩, ves⟩ := c3.node ((x2.trans x3).ve ve) q1
    cases e'
    obtain rfl := keyE_v q2 ve2
    refine ⟨_, .inl ⟨_, kk, .inr ⟨od, n3⟩, rfl, rfl⟩, ?_⟩
    obtain ⟨w1, w2⟩ := lk_val (k := kk) (ks := ks) ves
    cases hl : lk (ks.zip es) kk with
    | none =>
      rw [w2 hl]
      rw [hl] at q3
      exact k v3 as3 G3 H3 e2 s3 c3 ((x1.trans x2).trans x3) ve3 q3
    | some e' =>
      obtain ⟨v', h1, h2⟩ := w1 e' hl
      rw [h1]
      rw [hl] at q3
      exact k v' as3 G3 H3 e' s3 c3 ((x1.trans x2).trans x3) h2 q3
/-- d.clear(), d a name of an owned dict -/
theorem mt_clearZ : MtR X "dict.clear" (fun x vs H Q => ∃ (a : Addr) (od : Obj) (kvs : List (Key × V)), x = .ref a ∧ vs = [] ∧ H a = some (.frz od (.dK kvs)) ∧ (∀ o' u', X.H_0 a ≠ some (.frz o' u')) ∧ ∀ od', Q .non (upd H a (.frz od' (.dK [])))) := by
  intro pins st σ H x vs v us Q I rx rv h
  obtain ⟨a, od, kvs, rfl, rfl, ha, hn, q⟩ := h
  have I1 := I.unlock ha hn
  refine thn (mtd_clear pins st σ _ (.ref a) [] v us (fun y H' => y = .non ∧ H' = upd (upd H a (.dK kvs)) a (.dK [])) I1 rx rv ⟨a, kvs, rfl, rfl, upd_same, rfl, rfl⟩) fun y s' ⟨z, H', I2, rz, e1, e2⟩ => ?_
  subst e1 e2
  rw [upd_upd] at I2
  obtain ⟨od', I3⟩ := I2.lock (d := a) upd_same trivial
  rw [upd_upd] at I3
  exact ⟨.non, _, I3, rz, q od'⟩
theorem je_clear {i : Nat} {apos np : Pos} {ks : List Key} {es : List E} {j : Nat} (hH : X.H_0 = F.H0) (n : NmR X i x) (h1 : nth s.sl i = some (some (.r j))) (h2 : nth s.ce j = some (.nd (.dct ks) es)) (h3 : s.ar ≤ j) (q : Φ (.d .non) (s.put j (.dct []) []))
    (hbase : attributeBase (.Name x np) "clear" X.env (eval (.Name x np) X.env) = eval (.Name x np) X.env := by rfl) (hline : (apos.endLine == pos.line) = true := by rfl) : JE X F (.Call (.Attribute (.Name x np) "clear" apos) [] [] pos) s Φ := fun as G H σ Q c k => by
  rw [nth_eq] at h1 h2
  obtain ⟨v, g1, g2⟩ := c.slots i _ h1
  obtain ⟨a, ha, rfl⟩ := g2
  obtain ⟨a', vs, w1, ⟨w2, w3, od, w4⟩, w5⟩ := c.cells j _ _ h2
  rw [ha] at w1
  cases w1
  have nA : a ∉ F.A0 := fun z => by
    obtain ⟨l, hl⟩ := List.getElem?_of_mem z
    have q := pre_get c.pre hl
    obtain ⟨l1, e1⟩ := List.getElem?_eq_some_iff.mp q
    obtain ⟨l2, e2⟩ := List.getElem?_eq_some_iff.mp ha
    have := (List.getElem_inj c.nd).mp (e1.trans e2.symm)
    have l3 := (List.getElem?_eq_some_iff.mp hl).1
    rw [c.har] at l3
    omega
  have h0 : F.H0 a = none := (c.fresh a (List.mem_of_getElem? ha)).resolve_left nA
  have hn : ∀ o' u', X.H_0 a ≠ some (.frz o' u') := fun o' u' z => by rw [hH, h0] at z; cases z
  intro pins st I
  have I1 := I.unlock w4 hn
  refine thn ((pe_dclear (pe_var n.nm n.vis n.dbg n.cdt) hbase hline).run pins st σ _ (fun y H' => y = .non ∧ H' = upd (upd H a (.dK (ks.zip vs))) a (.dK [])) I1 ⟨_, g1, .inr (.inr (.inl ⟨rfl, .inl ⟨_, upd_same⟩⟩)), a, _, rfl, rfl, upd_same, rfl, rfl⟩) fun y s' ⟨z, H', I2, rz, e1, e2⟩ => ?_
  subst e1 e2
  rw [upd_upd] at I2
  obtain ⟨od', I3⟩ := I2.lock (d := a) upd_same trivial
  rw [upd_upd] at I3
  exact ⟨.non, _, I3, rz, k .non as G _ (.d .non) _ (c.put (kd := .dct []) (es := []) (vs := []) h2 ha ⟨rfl, List.nodup_nil, od', upd_same⟩ .nil) (Ext.refl _ _) Rep.non q⟩
end DL
namespace DL
open PySem PySem.Spec PyProof.Rows L2
/-! ### defs that own cells: any of the arguments, cells that refer to cells -/
def E.ren (f : Nat → Nat) : E → E
  | .d x => .d x
  | .r k => .r (f k)
def Cell.ren (f : Nat → Nat) : Cell → Cell
  | .gone => .gone
  | .nd kd es => .nd kd (es.map (E.ren f))
theorem ren_map (f : Nat → Nat) (ds : List D) : (ds.map E.d).map (E.ren f) = ds.map E.d := by rw [List.map_map]; rfl
/-- what is owned -/
structure Ow (K : PySem.W.Frag) (as : List Addr) (G H : Hp) (ce : List Cell) : Prop where
  len : as.length = ce.length
  nd : as.Nodup
  own : ∀ (k : Nat) (a : Addr) (kd : Kd) (es : List E), as[k]? = some a → ce[k]? = some (.nd kd es) → G a = none
  there : ∀ a ∈ as, H a ≠ none
  cells : ∀ (k : Nat) (kd : Kd) (es : List E), ce[k]? = some (.nd kd es) → ∃ a vs, as[k]? = some a ∧ CellAt H a vs kd ∧ VEs K G as vs es
abbrev RS := List Cell → List E → (E → List Cell → Prop) → Prop
def spS (K : PySem.W.Frag) (R : RS) : Sp := fun vs H Q _ => ∃ as ce es G, Same G H ∧ Ow K as G H ce ∧ VEs K G as vs es ∧
  R ce es fun e ce' => ∀ v as' G' H', as <+: as' → (∀ a ∈ as', a ∈ as ∨ H a = none) → (∀ b o, b ∉ as → H b = some o → H' b = some o) → Same G G' → Same G' H' → (∀ b, G b = none → H b ≠ none → G' b = none) → Ow K as' G' H' ce' → VE K G' as' v e → Q v H'
def MonoS (R : RS) : Prop := ∀ ce es p q, (∀ e c, p e c → q e c) → R ce es p → R ce es q
structure CaS (P : Program) (w : World) (K : PySem.W.Frag) (mg : Str → Option Value) (base : Heap) (x : Str) (k : Nat) (R : RS) : Prop where
  mono : MonoS R
  ex : ∃ f fd ps, mg x = some (.ref f) ∧ PySem.W.keepIn K (.ref f) = true ∧ Binds K fd ps [] ∧ FnOk P w K mg base CX0 k f fd ps (spS K R)
structure CbS (X : Cx) (x : Str) (k : Nat) (R : RS) : Prop where
  gl : Gl X x
  mono : MonoS R
  ex : ∃ f fd ps, X.mg x = some (.ref f) ∧ PySem.W.keepIn X.K (.ref f) = true ∧ Binds X.K fd ps [] ∧ FnOk X.prog X.w X.K X.mg X.base CX0 k f fd ps (spS X.K R)
theorem CaS.at {X : Cx} {P : Program} {w : World} {K : PySem.W.Frag} {mg : Str → Option Value} {base : Heap} {N : List Str} {sc : Scope} {k j : Nat} {x : Str} {R : RS} (c : CaS P w K mg base x j R) (h : XIs X P w K mg base N sc k)
    (h1 : sc.names.lookup x = some .globalImplicit) : CbS X x j R := by
  obtain ⟨e1, e2, e3, e4, e5, _⟩ := id h
  subst e1 e2 e3 e4 e5
  exact ⟨h.gl h1, c.mono, c.ex⟩
theorem Cz.ow {X : Cx} {F : Fr} {s : S} {as : List Addr} {G H : Hp} {σ : L2.St} (c : Cz X F as G H σ s) : Ow X.K as G H s.ce := ⟨c.len, c.nd, c.own, c.there, c.cells⟩
section
variable {P : Program} {w : World} {K : PySem.W.Frag} {mg : Str → Option Value} {base : Heap} {x qual : Str} {st : Stmt} {f : Addr} {fd : FuncData} {N ps : List Str} {k : Nat}
theorem fn_S {R : RS} (F : Fun K x qual st f fd) (S : FnScope N ps (defScope st)) (hlen : ∀ ce es post, R ce es post → es.length = ps.length)
    (body : ∀ (X : Cx) (F : Fr) (ce : List Cell) (es : List E) (post : E → List Cell → Prop), XIs X P w K mg base N (defScope st) k → (∀ y, X.fn y = true) → X.H_0 = F.H0 → R ce es post → JSs X F (defBody st) (entry N es ce ce.length)
      { nx := fun s => post (.d .non) s.ce, rt := fun e s => post e s.ce }) :
    FnOk P w K mg base CX0 (k + 1) f fd ps (spS K R) := by
  refine F.ok S (fun vs H Q E h => ?_) fun cdv A outer s H vs Q Ex hr h => ?_
  · obtain ⟨as, ce, es, G, _, _, ve, hR⟩ := h
    rw [Paired.length ve]; exact hlen ce es _ hR
  · obtain ⟨as, ce, es, G, sg, ow, ve, hR⟩ := h
    refine ⟨_, pss_sem _ _, ?_⟩
    refine body _ ⟨G, H, as⟩ ce es _ ⟨rfl, rfl, rfl, rfl, rfl, rfl, rfl, rfl, S.nd, rfl, hr⟩ (fun _ => rfl) rfl hR as G H _ _ ?_ ?_
    · refine ⟨sg, Same.refl _, fun _ h _ => h, fun _ _ h _ => h, ow.len, List.prefix_refl _, ow.nd, ow.own, fun a h => .inl h, ow.there, ow.cells, fun i e h => slots_entry ve N h, ?_, ow.len⟩
      show (es.map some ++ List.replicate (N.length - es.length) none).length = (L2.start N vs).length
      unfold L2.start
      simp [Paired.length ve]
    · have fin : ∀ {as' : List Addr} {G' H' : Hp} {σ' : L2.St} {s' : DL.S}, Cz (cxOf CX0 P w K mg base N qual (defScope st) f cdv A outer s H Ex).nox ⟨G, H, as⟩ as' G' H' σ' s' → ∀ b o, b ∉ as → H b = some o → H' b = some o := fun {as' G' H' σ' s'} c b o hb q => c.frame b o q hb
      exact ⟨fun as' G' H' σ' s' c x q => q .non as' G' H' c.pre c.fresh (fin c) c.base c.sub c.new c.ow .non, fun v as' G' H' σ' e' s' c x ve q => q v as' G' H' c.pre c.fresh (fin c) c.base c.sub c.new c.ow ve, fun _ _ _ _ _ _ _ q => q.elim, fun _ _ _ _ _ _ _ q => q.elim⟩
end
/-! the call -/
def jsF (js : List Nat) (len : Nat) (i : Nat) : Nat := match nth js i with
  | some j => j
  | none => len + (i - js.length)
def setMany : List Cell → List Nat → List Cell → List Cell
  | ce, [], _ => ce
  | ce, _ :: _, [] => ce
  | ce, j :: js, c :: cs => setMany (setN ce j c) js cs
termination_by structural _ js => js
theorem setMany_len : ∀ (js : List Nat) (ce cs : List Cell), (setMany ce js cs).length = ce.length
  | [], _, _ => rfl
  | _ :: _, _, [] => rfl
  | j :: js, ce, c :: cs => by unfold setMany; rw [setMany_len js, setN_eq, List.length_set]
theorem setMany_out : ∀ {js : List Nat} {ce cs : List Cell} {k : Nat}, k ∉ js → (setMany ce js cs)[k]? = ce[k]?
  | [], _, _, _, _ => rfl
  | _ :: _, _, [], _, _ => rfl
  | j :: js, ce, c :: cs, k, h => by
    simp only [List.mem_cons, not_or] at h
    unfold setMany
    rw [setMany_out h.2, setN_eq, List.getElem?_set_ne (fun z => h.1 z.symm)]
theorem setMany_in : ∀ {js : List Nat} {ce cs : List Cell} {i j : Nat} {c : Cell}, js.Nodup → (∀ j ∈ js, j < ce.length) → js[i]? = some j → cs[i]? = some c → (setMany ce js cs)[j]? = some c
  | [], _, _, _, _, _, _, _, h, _ => by simp at h
  | _ :: _, _, [], _, _, _, _, _, _, h => by simp at h
  | j0 :: js, ce, c0 :: cs, 0, j, c, hn, hb, h1, h2 => by
    simp at h1 h2
    subst h1 h2
    unfold setMany
    rw [setMany_out (List.nodup_cons.mp hn).1, setN_eq, List.getElem?_set_self (hb _ List.mem_cons_self)]
  | j0 :: js, ce, c0 :: cs, i + 1, j, c, hn, hb, h1, h2 => by
    simp at h1 h2
    unfold setMany
    exact setMany_in (List.nodup_cons.mp hn).2 (fun j hj => by rw [setN_eq, List.length_set]; exact hb j (List.mem_cons_of_mem _ hj)) h1 h2
def S.back (s : S) (js : List Nat) (ce : List Cell) : S := ⟨s.sl, setMany s.ce js ((ce.take js.length).map (Cell.ren (jsF js s.ce.length))) ++ (ce.drop js.length).map (Cell.ren (jsF js s.ce.length)), s.ar⟩
/-- the cells that go along, told in the callee's numbers -/
def Goes (s : S) (js : List Nat) (ce : List Cell) : Prop := js.Nodup ∧ (∀ j ∈ js, j < s.ce.length) ∧ js.length = ce.length ∧ (∀ (i j : Nat) (c : Cell), js[i]? = some j → ce[i]? = some c → s.ce[j]? = some (c.ren (jsF js s.ce.length))) ∧ ce.all (Cell.ltB ce.length) = true
variable {X : Cx} {F : Fr} {s : S}
theorem jsF_in {js : List Nat} {len i : Nat} (h : i < js.length) : js[i]? = some (jsF js len i) := by
  unfold jsF
  rw [nth_eq, List.getElem?_eq_getElem h]
theorem jsF_out {js : List Nat} {len i : Nat} (h : ¬ i < js.length) : jsF js len i = len + (i - js.length) := by
  unfold jsF
  rw [nth_eq, List.getElem?_eq_none (by omega)]
/-- the callee's addresses -/
def subA (as : List Addr) (js : List Nat) : List Addr := js.map fun j => as.getD j 0
theorem subA_get {as : List Addr} {js : List Nat} {i j : Nat} (hj : js[i]? = some j) (hb : j < as.length) : (subA as js)[i]? = as[j]? := by
  unfold subA
  rw [List.getElem?_map, hj, List.getElem?_eq_getElem hb]
  simp [List.getD, List.getElem?_eq_getElem hb]
theorem ve_in {K : PySem.W.Frag} {G : Hp} {as : List Addr} {js : List Nat} {len : Nat} {v : V} (hb : ∀ j ∈ js, j < as.length) : ∀ {e : E}, e.lt js.length = true → VE K G as v (e.ren (jsF js len)) → VE K G (subA as js) v e
  | .d _, _, h => h
  | .r i, hl, ⟨a, h1, h2⟩ => by
    have hi : i < js.length := by simpa [E.lt] using hl
    have hj := jsF_in (len := len) hi
    exact ⟨a, by rw [subA_get hj (hb _ (List.mem_of_getElem? hj))]; exact h1, h2⟩
theorem ves_in {K : PySem.W.Frag} {G : Hp} {as : List Addr} {js : List Nat} {len : Nat} (hb : ∀ j ∈ js, j < as.length) : ∀ {es : List E} {vs : List V}, es.all (E.lt js.length) = true → VEs K G as vs (es.map (E.ren (jsF js len))) → VEs K G (subA as js) vs es
  | [], _, _, .nil => .nil
  | e :: es, _, hl, .cons h t => by
    rw [List.all_cons, Bool.and_eq_true] at hl
    exact .cons (ve_in hb hl.1 h) (ves_in hb hl.2 t)
/-- behind the call -/
theorem ve_out {K : PySem.W.Frag} {G : Hp} {as as' : List Addr} {js : List Nat} {v : V} (hb : ∀ j ∈ js, j < as.length) (hp : subA as js <+: as') : ∀ {e : E}, VE K G as' v e → VE K G (as ++ as'.drop js.length) v (e.ren (jsF js as.length))
  | .d _, h => h
  | .r i, ⟨a, h1, h2⟩ => by
    refine ⟨a, ?_, h2⟩
    have hsl : (subA as js).length = js.length := List.length_map _
    by_cases hi : i < js.length
    · have hj := jsF_in (len := as.length) hi
      have hjb := hb _ (List.mem_of_getElem? hj)
      rw [List.getElem?_append_left hjb, ← subA_get hj hjb]
      obtain ⟨t, rfl⟩ := hp
      rw [List.getElem?_append_left (by omega)] at h1
      exact h1
    · rw [jsF_out hi, List.getElem?_append_right (by omega), List.getElem?_drop]
      have : js.length + (as.length + (i - js.length) - as.length) = i := by omega
      rw [this]
      exact h1
theorem ves_out {K : PySem.W.Frag} {G : Hp} {as as' : List Addr} {js : List Nat} (hb : ∀ j ∈ js, j < as.length) (hp : subA as js <+: as') : ∀ {es : List E} {vs : List V}, VEs K G as' vs es → VEs K G (as ++ as'.drop js.length) vs (es.map (E.ren (jsF js as.length)))
  | [], _, .nil => .nil
  | _ :: _, _, .cons h t => .cons (ve_out hb hp h) (ves_out hb hp t)
theorem subA_nd {as : List Addr} (nd : as.Nodup) : ∀ {js : List Nat}, js.Nodup → (∀ j ∈ js, j < as.length) → (subA as js).Nodup
  | [], _, _ => List.nodup_nil
  | j :: js, h, hb => by
    have ih := subA_nd nd (List.nodup_cons.mp h).2 fun j hj => hb j (List.mem_cons_of_mem _ hj)
    show (as.getD j 0 :: subA as js).Nodup
    rw [List.nodup_cons]
    refine ⟨fun z => ?_, ih⟩
    obtain ⟨l, hl, e⟩ := List.mem_map.mp z
    have b1 := hb j List.mem_cons_self
    have b2 := hb l (List.mem_cons_of_mem _ hl)
    simp only [List.getD, List.getElem?_eq_getElem b1, List.getElem?_eq_getElem b2, Option.getD_some] at e
    have := (List.getElem_inj nd).mp e
    subst this
    exact (List.nodup_cons.mp h).1 hl
theorem subA_mem {as : List Addr} {js : List Nat} {a : Addr} (hb : ∀ j ∈ js, j < as.length) (h : a ∈ subA as js) : ∃ i j : Nat, js[i]? = some j ∧ as[j]? = some a := by
  obtain ⟨j, hj, e⟩ := List.mem_map.mp h
  obtain ⟨i, hi⟩ := List.getElem?_of_mem hj
  refine ⟨i, j, hi, ?_⟩
  have b := hb j hj
  rw [List.getElem?_eq_getElem b]
  simp only [List.getD, List.getElem?_eq_getElem b, Option.getD_some] at e
  rw [e]
theorem ltB_cell {n : Nat} {ce : List Cell} (h : ce.all (Cell.ltB n) = true) {k : Nat} {kd : Kd} {es : List E} (q : ce[k]? = some (.nd kd es)) : es.all (E.lt n) = true :=
  List.all_eq_true.mp h _ (List.mem_of_getElem? q)
theorem Cz.goes {as : List Addr} {G H : Hp} {σ : L2.St} {js : List Nat} {ce : List Cell} (c : Cz X F as G H σ s) (g : Goes s js ce) : Ow X.K (subA as js) G H ce := by
  obtain ⟨g1, g2, g3, g4, g5⟩ := g
  have hb : ∀ j ∈ js, j < as.length := fun j hj => by rw [c.len]; exact g2 j hj
  have hjs : ∀ {k : Nat} {cl : Cell}, ce[k]? = some cl → js[k]? = some (jsF js s.ce.length k) ∧ jsF js s.ce.length k < as.length := fun {k cl} h => by
    have hk : k < js.length := by rw [g3]; exact (List.getElem?_eq_some_iff.mp h).1
    have := jsF_in (len := s.ce.length) hk
    exact ⟨this, hb _ (List.mem_of_getElem? this)⟩
  refine ⟨by unfold subA; rw [List.length_map, g3], subA_nd c.nd g1 hb, fun k a kd es h1 h2 => ?_, fun a ha => ?_, fun k kd es h => ?_⟩
  · obtain ⟨e1, e2⟩ := hjs h2
    rw [subA_get e1 e2] at h1
    have := g4 _ _ _ e1 h2
    exact c.own _ a kd _ h1 this
  · obtain ⟨i, j, _, h⟩ := subA_mem hb ha
    exact c.there a (List.mem_of_getElem? h)
  · obtain ⟨e1, e2⟩ := hjs h
    obtain ⟨a, vs, w1, w2, w3⟩ := c.cells _ kd _ (g4 _ _ _ e1 h)
    refine ⟨a, vs, by rw [subA_get e1 e2]; exact w1, w2, ves_in hb ?_ w3⟩
    rw [g3]
    exact ltB_cell g5 h
theorem Cz.ret {as as' : List Addr} {G H G' H' : Hp} {σ : L2.St} {js : List Nat} {ce ce' : List Cell} (c : Cz X F as G H σ s) (g : Goes s js ce) (h1 : subA as js <+: as') (h2 : ∀ a ∈ as', a ∈ subA as js ∨ H a = none) (h3 : ∀ b o, b ∉ subA as js → H b = some o → H' b = some o)
    (h4 : Same G G') (h5 : Same G' H') (h6 : ∀ b, G b = none → H b ≠ none → G' b = none) (ow : Ow X.K as' G' H' ce') : Cz X F (as ++ as'.drop js.length) G' H' σ (s.back js ce') := by
  obtain ⟨g1, g2, g3, g4, g5⟩ := g
  have hb : ∀ j ∈ js, j < as.length := fun j hj => by rw [c.len]; exact g2 j hj
  have hsl : (subA as js).length = js.length := List.length_map _
  have hle : js.length ≤ as'.length := by rw [← hsl]; exact h1.length_le
  have hsub : ∀ a ∈ subA as js, a ∈ as := fun a ha => by
    obtain ⟨i, j, _, h⟩ := subA_mem hb ha
    exact List.mem_of_getElem? h
  have as'i : ∀ {i : Nat}, i < js.length → as'[i]? = (subA as js)[i]? := fun {i} hi => by
    obtain ⟨t, rfl⟩ := h1
    rw [List.getElem?_append_left (by omega)]
  -- the new ones
  have hnew : ∀ a ∈ as'.drop js.length, H a = none := fun a ha => by
    refine (h2 a (List.mem_of_mem_drop ha)).resolve_left fun z => ?_
    obtain ⟨l, hl⟩ := List.getElem?_of_mem ha
    rw [List.getElem?_drop] at hl
    obtain ⟨i, hi⟩ := List.getElem?_of_mem z
    have hi2 : i < js.length := by rw [← hsl]; exact (List.getElem?_eq_some_iff.mp hi).1
    rw [← as'i hi2] at hi
    have := nodup_get ow.nd hi hl
    omega
  have cel : ∀ {k : Nat} {cl : Cell}, (s.back js ce').ce[k]? = some cl → (k < as.length ∧ k ∉ js ∧ s.ce[k]? = some cl) ∨ ∃ (i : Nat) (c0 : Cell), ce'[i]? = some c0 ∧ cl = c0.ren (jsF js s.ce.length) ∧ (as ++ as'.drop js.length)[k]? = as'[i]? := fun {k cl} q => by
    have q : (setMany s.ce js ((ce'.take js.length).map (Cell.ren (jsF js s.ce.length))) ++ (ce'.drop js.length).map (Cell.ren (jsF js s.ce.length)))[k]? = some cl := q
    have hsm : (setMany s.ce js ((ce'.take js.length).map (Cell.ren (jsF js s.ce.length)))).length = as.length := by rw [setMany_len, c.len]
    by_cases hk : k < as.length
    · rw [List.getElem?_append_left (by omega)] at q
      by_cases hj : k ∈ js
      · obtain ⟨i, hi⟩ := List.getElem?_of_mem hj
        have hi2 : i < js.length := (List.getElem?_eq_some_iff.mp hi).1
        have hi3 : i < ce'.length := by rw [← ow.len]; omega
        have e1 : ((ce'.take js.length).map (Cell.ren (jsF js s.ce.length)))[i]? = some (ce'[i].ren (jsF js s.ce.length)) := by
          rw [List.getElem?_map, List.getElem?_take_of_lt hi2, List.getElem?_eq_getElem hi3]; rfl
        rw [setMany_in g1 g2 hi e1] at q
        cases q
        refine .inr ⟨i, ce'[i], List.getElem?_eq_getElem hi3, rfl, ?_⟩
        rw [List.getElem?_append_left hk, as'i hi2, subA_get hi hk]
      · rw [setMany_out hj] at q
        exact .inl ⟨hk, hj, q⟩
    · rw [List.getElem?_append_right (by omega), hsm, List.getElem?_map, List.getElem?_drop] at q
      cases e : ce'[js.length + (k - as.length)]? with
      | none => rw [e] at q; cases q
      | some c0 =>
        rw [e] at q
        cases q
        exact .inr ⟨_, c0, e, rfl, by rw [List.getElem?_append_right (by omega), List.getElem?_drop]⟩
  have nd2 : (as ++ as'.drop js.length).Nodup := by
    rw [List.nodup_append]
    exact ⟨c.nd, ow.nd.sublist (List.drop_sublist _ _), fun a ha b hb e => c.there a ha (by rw [e]; exact hnew b hb)⟩
  have addr : ∀ {a : Addr}, a ∈ as → a ∉ subA as js → ∀ o, H a = some o → H' a = some o := fun {a} _ hn o ho => h3 a o hn ho
  refine ⟨h5, c.base.trans h4, fun b q1 q2 => ?_, fun b o q1 q2 => ?_, ?_, c.pre.trans ⟨_, rfl⟩, nd2, fun k a kd es q1 q2 => ?_, fun a ha => ?_, fun a ha => ?_, fun k kd es q => ?_, fun i e q => ?_, c.slen, c.har⟩
  · refine h6 b (c.new b q1 q2) fun z => ?_
    cases q : F.H0 b with
    | none => exact q2 q
    | some o =>
      by_cases hA : b ∈ F.A0
      · exact c.there b (c.pre.subset hA) z
      · have := c.frame b o q hA
        rw [z] at this; cases this
  · refine h3 b o (fun z => ?_) (c.frame b o q1 q2)
    rcases c.fresh b (hsub b z) with w | w
    · exact q2 w
    · rw [w] at q1; cases q1
  · show _ = (setMany s.ce js _ ++ _).length
    rw [List.length_append, List.length_append, setMany_len, List.length_map, List.length_drop, List.length_drop, c.len, ow.len]
  · rcases cel q2 with ⟨hk, _, q3⟩ | ⟨i, c0, q3, q4, q5⟩
    · rw [List.getElem?_append_left hk] at q1
      exact h6 a (c.own k a kd es q1 q3) (c.there a (List.mem_of_getElem? q1))
    · rw [q5] at q1
      cases c0 with
      | gone => cases q4
      | nd kd0 es0 => exact ow.own i a kd0 es0 q1 q3
  · rcases List.mem_append.mp ha with ha | ha
    · exact c.fresh a ha
    · exact .inr (c.h0none (hnew a ha))
  · rcases List.mem_append.mp ha with ha | ha
    · by_cases hm : a ∈ subA as js
      · exact ow.there a (h1.subset hm)
      · cases q : H a with
        | none => exact absurd q (c.there a ha)
        | some o => rw [h3 a o hm q]; exact fun z => nomatch z
    · exact ow.there a (List.mem_of_mem_drop ha)
  · rcases cel q with ⟨hk, hj, q3⟩ | ⟨i, c0, q3, q4, q5⟩
    · obtain ⟨a, vs, w1, w2, w3⟩ := c.cells k kd es q3
      refine ⟨a, vs, by rw [List.getElem?_append_left hk]; exact w1, w2.keep fun o ho => h3 a o (fun z => ?_) ho, w3.mono ⟨_, rfl⟩ h4⟩
      obtain ⟨i, j, z1, z2⟩ := subA_mem hb z
      have := nodup_get c.nd w1 z2
      subst this
      exact hj (List.mem_of_getElem? z1)
    · cases c0 with
      | gone => cases q4
      | nd kd0 es0 =>
        cases q4
        obtain ⟨a, vs, w1, w2, w3⟩ := ow.cells i kd es0 q3
        rw [← c.len]
        exact ⟨a, vs, by rw [q5]; exact w1, w2, ves_out hb h1 w3⟩
  · obtain ⟨v, w1, w2⟩ := c.slots i e q
    exact ⟨v, w1, w2.mono ⟨_, rfl⟩ h4⟩
/-- f(..): js the cells that go along -/
theorem je_callS {a : Expr} {es : List Expr} {Φ : E → S → Prop} {pos p : Pos} {x : Str} {k B : Nat} {R : RS} (cb : CbS X x k R) (bx : Bx X B) (hB : k ≤ B)
    (h : JA X F (a :: es) s fun vs s1 => ∃ js ce es0, Goes s1 js ce ∧ vs = es0.map (E.ren (jsF js s1.ce.length)) ∧ es0.all (E.lt js.length) = true ∧ R ce es0 fun e ce' => Φ (e.ren (jsF js s1.ce.length)) (s1.back js ce')) (hdb : (x == ("__debug__" : Str)) = false := by decide)
    (he : starEach (a :: es) X.env = (false, eval a X.env) :: starEach es X.env := by rfl) (hpl : (backTo pos (starEach es X.env)).any (·.1) = false := by rfl) : JE X F (.Call (.Name x p) (a :: es) [] pos) s Φ := by
  obtain ⟨f, fd, ps, h1, h2, h3, h4⟩ := cb.ex
  refine je_of (pe_call h4 (bx.room.mono hB) cb.gl h1 h2 h3 .nil pass0 (pa_sem X _) hdb he hpl) fun as G H σ Q c kk => h as G H σ _ c fun vs as1 G1 H1 es1 s1 c1 x1 ves ⟨js, ce, es0, g, q1, q2, hR⟩ => ?_
  rw [List.append_nil]
  subst q1
  have hb : ∀ j ∈ js, j < as1.length := fun j hj => by rw [c1.len]; exact g.2.1 j hj
  refine ⟨subA as1 js, ce, es0, G1, c1.sub, c1.goes g, ves_in hb q2 ves, cb.mono ce es0 _ _ (fun e ce' hr v as' G' H' w1 w2 w3 w4 w5 w6 ow ve => ?_) hR⟩
  have c2 := c1.ret g w1 w2 w3 w4 w5 w6 ow
  have ve2 := ve_out hb w1 ve
  rw [c1.len] at ve2
  exact kk v _ G' H' _ _ c2 (x1.trans ⟨⟨_, rfl⟩, w4⟩) ve2 hr
end DL
namespace DL
open PySem PySem.Spec PyProof.Rows L2
/-! ### defs whose first arguments are owned, their members frozen -/
abbrev RCs := List (Kd × List D) → List D → (Rt → List (Kd × List D) → Prop) → Prop
def ceOf (os : List (Kd × List D)) : List Cell := os.map fun o => Cell.nd o.1 (o.2.map E.d)
def rPost (n : Nat) (post : E → List Cell → Prop) (r : Rt) (os' : List (Kd × List D)) : Prop := os'.length = n → match r with
  | .dat x => post (.d x) (ceOf os')
  | .new kd ds => post (.r n) (ceOf os' ++ [.nd kd (ds.map .d)])
def RSn (R : RCs) : RS := fun ce es post => ∃ os ds, ce = ceOf os ∧ es = (List.range os.length).map E.r ++ ds.map E.d ∧ R os ds (rPost os.length post)
def MonoN (R : RCs) : Prop := ∀ os ds p q, (∀ r c, p r c → q r c) → R os ds p → R os ds q
theorem MonoN.s {R : RCs} (m : MonoN R) : MonoS (RSn R) := fun ce es p q h ⟨os, ds, e1, e2, hR⟩ => ⟨os, ds, e1, e2, m os ds _ _ (fun r c z hl => by
  have z := z hl
  cases r with
  | dat x => exact h _ _ z
  | new kd d2 => exact h _ _ z) hR⟩
/-- what stands in the first cells -/
def Owns (s : S) : Nat → List (Kd × List D) → Prop
  | _, [] => True
  | i, o :: r => (∃ es, nth s.ce i = some (.nd o.1 es) ∧ dsOf es = some o.2) ∧ Owns s (i + 1) r
theorem Owns.get {s : S} : ∀ {os : List (Kd × List D)} {i k : Nat} {o : Kd × List D}, Owns s i os → os[k]? = some o → s.ce[i + k]? = some (.nd o.1 (o.2.map .d))
  | [], _, _, _, _, h => by simp at h
  | o0 :: r, i, 0, o, ⟨⟨es, h1, h2⟩, _⟩, h => by
    simp at h
    subst h
    rw [nth_eq] at h1
    rw [Nat.add_zero, h1, dsOf_eq h2]
  | o0 :: r, i, k + 1, o, ⟨_, h2⟩, h => by
    simp at h
    have := h2.get h
    rw [Nat.add_assoc, Nat.add_comm 1 k] at this
    exact this
theorem ceOf_get {os : List (Kd × List D)} {i : Nat} {cl : Cell} (h : (ceOf os)[i]? = some cl) : ∃ o, os[i]? = some o ∧ cl = .nd o.1 (o.2.map .d) := by
  unfold ceOf at h
  rw [List.getElem?_map] at h
  cases e : os[i]? with
  | none => rw [e] at h; cases h
  | some o => rw [e] at h; cases h; exact ⟨o, rfl, rfl⟩
theorem lt_ds (n : Nat) (ds : List D) : (ds.map E.d).all (E.lt n) = true := by
  rw [List.all_map, List.all_eq_true]
  intro d _
  rfl
theorem ltB_ceOf (n : Nat) (os : List (Kd × List D)) : (ceOf os).all (Cell.ltB n) = true := by
  unfold ceOf
  rw [List.all_map, List.all_eq_true]
  intro o _
  exact lt_ds n o.2
section
variable {P : Program} {w : World} {K : PySem.W.Frag} {mg : Str → Option Value} {base : Heap} {x qual : Str} {st : Stmt} {f : Addr} {fd : FuncData} {N ps : List Str} {k : Nat}
/-- the body's end tells what goes back: the first cells, and more if wanted -/
theorem fn_S2 {R : RS} (F : Fun K x qual st f fd) (S : FnScope N ps (defScope st)) (hlen : ∀ ce es post, R ce es post → es.length = ps.length)
    (body : ∀ (X : Cx) (F : Fr) (ce : List Cell) (es : List E) (post : E → List Cell → Prop), XIs X P w K mg base N (defScope st) k → (∀ y, X.fn y = true) → X.H_0 = F.H0 → R ce es post → JSs X F (defBody st) (entry N es ce ce.length)
      { nx := fun s => ∃ r ce0, Goes s (List.range ce.length ++ r) ce0 ∧ post (.d .non) ce0, rt := fun e s => ∃ r ce0 e0, Goes s (List.range ce.length ++ r) ce0 ∧ e = e0.ren (jsF (List.range ce.length ++ r) s.ce.length) ∧ e0.lt (ce.length + r.length) = true ∧ post e0 ce0 }) :
    FnOk P w K mg base CX0 (k + 1) f fd ps (spS K R) := by
  refine F.ok S (fun vs H Q E h => ?_) fun cdv A outer s H vs Q Ex hr h => ?_
  · obtain ⟨as, ce, es, G, _, _, ve, hR⟩ := h
    rw [Paired.length ve]; exact hlen ce es _ hR
  · obtain ⟨as, ce, es, G, sg, ow, ve, hR⟩ := h
    refine ⟨_, pss_sem _ _, ?_⟩
    refine body _ ⟨G, H, as⟩ ce es _ ⟨rfl, rfl, rfl, rfl, rfl, rfl, rfl, rfl, S.nd, rfl, hr⟩ (fun _ => rfl) rfl hR as G H _ _ ?_ ?_
    · refine ⟨sg, Same.refl _, fun _ h _ => h, fun _ _ h _ => h, ow.len, List.prefix_refl _, ow.nd, ow.own, fun a h => .inl h, ow.there, ow.cells, fun i e h => slots_entry ve N h, ?_, ow.len⟩
      show (es.map some ++ List.replicate (N.length - es.length) none).length = (L2.start N vs).length
      unfold L2.start
      simp [Paired.length ve]
    · have key : ∀ {as' : List Addr} {G' H' : Hp} {σ' : L2.St} {s' : DL.S} {r : List Nat} {ce0 : List Cell}, Cz (cxOf CX0 P w K mg base N qual (defScope st) f cdv A outer s H Ex).nox ⟨G, H, as⟩ as' G' H' σ' s' → Goes s' (List.range ce.length ++ r) ce0 →
          as <+: subA as' (List.range ce.length ++ r) ∧ (∀ a ∈ subA as' (List.range ce.length ++ r), a ∈ as ∨ H a = none) ∧ (∀ b o, b ∉ as → H b = some o → H' b = some o) := fun {as' G' H' σ' s' r ce0} c g => by
        refine ⟨?_, fun a ha => ?_, fun b o hb q => c.frame b o q hb⟩
        · unfold subA
          rw [List.map_append]
          refine ⟨_, congrArg (· ++ r.map fun j => as'.getD j 0) ?_⟩
          apply List.ext_getElem?
          intro i
          by_cases hi : i < as.length
          · rw [List.getElem?_map, List.getElem?_range (by rw [← ow.len]; exact hi)]
            have := pre_get c.pre (List.getElem?_eq_getElem hi)
            rw [List.getElem?_eq_getElem hi]
            simp [List.getD, this]
          · rw [List.getElem?_eq_none (by omega), List.getElem?_eq_none (by rw [List.length_map, List.length_range, ← ow.len]; omega)]
        · obtain ⟨i, j, _, h⟩ := subA_mem (fun j hj => by rw [c.len]; exact g.2.1 j hj) ha
          exact c.fresh a (List.mem_of_getElem? h)
      refine ⟨fun as' G' H' σ' s' c x ⟨r, ce0, g, q⟩ => ?_, fun v as' G' H' σ' e' s' c x ve ⟨r, ce0, e0, g, h1, h2, q⟩ => ?_, fun _ _ _ _ _ _ _ q => q.elim, fun _ _ _ _ _ _ _ q => q.elim⟩
      · obtain ⟨k1, k2, k3⟩ := key c g
        exact q .non _ G' H' k1 k2 k3 c.base c.sub c.new (c.goes g) .non
      · obtain ⟨k1, k2, k3⟩ := key c g
        subst h1
        refine q v _ G' H' k1 k2 k3 c.base c.sub c.new (c.goes g) (ve_in (fun j hj => by rw [c.len]; exact g.2.1 j hj) ?_ ve)
        rw [List.length_append, List.length_range]; exact h2
def RtN (n : Nat) (post : Rt → Prop) : E → S → Prop
  | .d x, _ => post (.dat x)
  | .r k, s => ∃ kd es ds, nth s.ce k = some (.nd kd es) ∧ dsOf es = some ds ∧ n ≤ k ∧ post (.new kd ds)
theorem goes_owns {s : S} {os' : List (Kd × List D)} (h : Owns s 0 os') : Goes s (List.range os'.length) (ceOf os') := by
  have hg : ∀ {k : Nat} {o : Kd × List D}, os'[k]? = some o → s.ce[k]? = some (.nd o.1 (o.2.map .d)) := fun {k o} q => by
    have := h.get q
    rw [Nat.zero_add] at this
    exact this
  refine ⟨List.nodup_range, fun j hj => ?_, by rw [List.length_range]; unfold ceOf; rw [List.length_map], fun i j cl h1 h2 => ?_, ltB_ceOf _ _⟩
  · have hj := List.mem_range.mp hj
    exact (List.getElem?_eq_some_iff.mp (hg (List.getElem?_eq_getElem hj))).1
  · obtain ⟨o, h3, rfl⟩ := ceOf_get h2
    have hi := (List.getElem?_eq_some_iff.mp h3).1
    rw [List.getElem?_range hi] at h1
    cases h1
    rw [hg h3]
    show _ = some (Cell.nd o.1 ((o.2.map E.d).map _))
    rw [ren_map]
theorem goes_owns1 {s : S} {os' : List (Kd × List D)} (h : Owns s 0 os') {k : Nat} {kd : Kd} {ds : List D} (hk : s.ce[k]? = some (.nd kd (ds.map .d))) (hn : os'.length ≤ k) : Goes s (List.range os'.length ++ [k]) (ceOf os' ++ [.nd kd (ds.map .d)]) := by
  obtain ⟨g1, g2, g3, g4, g5⟩ := goes_owns h
  have hl : (ceOf os').length = os'.length := by unfold ceOf; rw [List.length_map]
  refine ⟨?_, fun j hj => ?_, by rw [List.length_append, List.length_append, g3]; rfl, fun i j cl h1 h2 => ?_, ?_⟩
  · rw [List.nodup_append]
    exact ⟨g1, by simp, fun a ha b hb e => by
      have : b = k := by simpa using hb
      subst this; subst e
      have := List.mem_range.mp ha
      omega⟩
  · rcases List.mem_append.mp hj with hj | hj
    · exact g2 j hj
    · have : j = k := by simpa using hj
      subst this
      exact (List.getElem?_eq_some_iff.mp hk).1
  · have cr : ∀ (f : Nat → Nat) (o : Kd × List D), (Cell.nd o.1 (o.2.map E.d)).ren f = .nd o.1 (o.2.map .d) := fun f o => by show Cell.nd o.1 _ = _; rw [ren_map]
    by_cases hi : i < os'.length
    · rw [List.getElem?_append_left (by rw [List.length_range]; exact hi)] at h1
      rw [List.getElem?_append_left (by omega)] at h2
      obtain ⟨o, h3, rfl⟩ := ceOf_get h2
      have := g4 i j _ h1 h2
      rw [cr] at this ⊢
      exact this
    · rw [List.getElem?_append_right (by rw [List.length_range]; omega)] at h1
      rw [List.getElem?_append_right (by omega), hl] at h2
      rw [List.length_range] at h1
      have h0 : i - os'.length = 0 := by
        have := (List.getElem?_eq_some_iff.mp h1).1
        simpa using this
      rw [h0] at h1 h2
      simp at h1 h2
      subst h1 h2
      rw [hk]
      exact congrArg some (cr _ (kd, ds)).symm
  · rw [List.all_append, ltB_ceOf]
    show (true && ([Cell.nd kd (ds.map E.d)]).all _) = true
    simp [Cell.ltB, lt_ds]
    intro x _; rfl
theorem fn_N {R : RCs} (F : Fun K x qual st f fd) (S : FnScope N ps (defScope st)) (hlen : ∀ os ds post, R os ds post → os.length + ds.length = ps.length)
    (body : ∀ (X : Cx) (F : Fr) (os : List (Kd × List D)) (ds : List D) (post : Rt → List (Kd × List D) → Prop), XIs X P w K mg base N (defScope st) k → (∀ y, X.fn y = true) → X.H_0 = F.H0 → R os ds post → JSs X F (defBody st) (entry N ((List.range os.length).map .r ++ ds.map .d) (ceOf os) os.length)
      { nx := fun s => ∃ os', Owns s 0 os' ∧ os'.length = os.length ∧ post (.dat .non) os', rt := fun e s => ∃ os', Owns s 0 os' ∧ os'.length = os.length ∧ RtN os.length (fun r => post r os') e s }) :
    FnOk P w K mg base CX0 (k + 1) f fd ps (spS K (RSn R)) := by
  refine fn_S2 F S (fun ce es post ⟨os, ds, e1, e2, hR⟩ => ?_) fun X F ce es post hX hfn hH ⟨os, ds, e1, e2, hR⟩ => ?_
  · rw [e2, List.length_append, List.length_map, List.length_range, List.length_map]; exact hlen os ds _ hR
  · subst e1 e2
    have hl : (ceOf os).length = os.length := by unfold ceOf; rw [List.length_map]
    rw [hl]
    refine JSs.mono (body X F os ds _ hX hfn hH hR) (fun s ⟨os', h2, h1, h3⟩ => ?_) (fun e s ⟨os', h2, h1, h3⟩ => ?_) (fun _ z => z) (fun _ z => z)
    · have g := goes_owns h2
      rw [h1] at g
      exact ⟨[], _, by rw [List.append_nil]; exact g, h3 h1⟩
    · cases e with
      | d y =>
        have g := goes_owns h2
        rw [h1] at g
        exact ⟨[], _, .d y, by rw [List.append_nil]; exact g, rfl, rfl, h3 h1⟩
      | r j =>
        obtain ⟨kd, es, d2, q1, q2, q3, q4⟩ := h3
        rw [nth_eq, dsOf_eq q2] at q1
        have g := goes_owns1 h2 q1 (by rw [h1]; exact q3)
        rw [h1] at g
        refine ⟨[j], _, .r os.length, g, ?_, ?_, q4 h1⟩
        · show E.r j = E.r (jsF _ _ os.length)
          congr 1
          unfold jsF
          rw [nth_eq, List.getElem?_append_right (by rw [List.length_range]; exact Nat.le_refl _)]
          simp
        · simp [E.lt]
end
/-! the call -/
variable {X : Cx} {F : Fr} {s : S}
def OwnsJ (s : S) : List Nat → List (Kd × List D) → Prop
  | [], [] => True
  | j :: js, o :: r => (∃ es, nth s.ce j = some (.nd o.1 es) ∧ dsOf es = some o.2) ∧ OwnsJ s js r
  | _, _ => False
theorem OwnsJ.len {s : S} : ∀ {js : List Nat} {os : List (Kd × List D)}, OwnsJ s js os → js.length = os.length
  | [], [], _ => rfl
  | _ :: _, _ :: _, ⟨_, h⟩ => by rw [List.length_cons, List.length_cons, h.len]
  | [], _ :: _, h => h.elim
  | _ :: _, [], h => h.elim
theorem OwnsJ.get {s : S} : ∀ {js : List Nat} {os : List (Kd × List D)} {i j : Nat}, OwnsJ s js os → js[i]? = some j → ∃ o, os[i]? = some o ∧ s.ce[j]? = some (.nd o.1 (o.2.map .d))
  | [], [], _, _, _, h => by simp at h
  | [], _ :: _, _, _, h, _ => h.elim
  | _ :: _, [], _, _, h, _ => h.elim
  | j0 :: js, o :: r, 0, j, ⟨⟨es, h1, h2⟩, _⟩, h => by
    simp at h
    subst h
    rw [nth_eq] at h1
    exact ⟨o, rfl, by rw [h1, dsOf_eq h2]⟩
  | j0 :: js, o :: r, i + 1, j, ⟨_, h2⟩, h => by
    simp at h
    obtain ⟨o', q1, q2⟩ := h2.get h
    exact ⟨o', by simpa using q1, q2⟩
def S.puts (s : S) : List Nat → List (Kd × List D) → S
  | [], _ => s
  | _ :: _, [] => s
  | j :: js, o :: r => S.puts (s.put j o.1 (o.2.map .d)) js r
termination_by structural js => js
theorem puts_eq : ∀ {js : List Nat} {os : List (Kd × List D)} {s : S}, s.puts js os = ⟨s.sl, setMany s.ce js (ceOf os), s.ar⟩
  | [], _, _ => rfl
  | _ :: _, [], _ => rfl
  | j :: js, o :: r, s => by
    show S.puts (s.put j o.1 (o.2.map .d)) js r = _
    rw [puts_eq]
    rfl
theorem ren_ceOf (f : Nat → Nat) (os : List (Kd × List D)) : (ceOf os).map (Cell.ren f) = ceOf os := by
  unfold ceOf
  rw [List.map_map]
  apply List.map_congr_left
  intro o _
  show Cell.nd o.1 _ = _
  rw [ren_map]
theorem je_callN {a : Expr} {es : List Expr} {Φ : E → S → Prop} {pos p : Pos} {x : Str} {k B : Nat} {R : RCs} (cb : CbS X x k (RSn R)) (bx : Bx X B) (hB : k ≤ B)
    (h : JA X F (a :: es) s fun vs s1 => ∃ js os ds, vs = js.map .r ++ ds.map .d ∧ js.Nodup ∧ OwnsJ s1 js os ∧ R os ds fun r os' => RtΦ Φ (s1.puts js os') r) (hdb : (x == ("__debug__" : Str)) = false := by decide)
    (he : starEach (a :: es) X.env = (false, eval a X.env) :: starEach es X.env := by rfl) (hpl : (backTo pos (starEach es X.env)).any (·.1) = false := by rfl) (hm : MonoN R := by assumption) : JE X F (.Call (.Name x p) (a :: es) [] pos) s Φ := by
  refine je_callS cb bx hB (fun as G H σ Q c kk => h as G H σ Q c fun vs as' G' H' es' s1 c' x ve ⟨js, os, ds, e1, nd, ow, hR⟩ => kk vs as' G' H' es' s1 c' x ve ?_) hdb he hpl
  have hl := ow.len
  have hb : ∀ j ∈ js, j < s1.ce.length := fun j hj => by
    obtain ⟨i, hi⟩ := List.getElem?_of_mem hj
    obtain ⟨o, _, h2⟩ := ow.get hi
    exact (List.getElem?_eq_some_iff.mp h2).1
  have hcl : (ceOf os).length = os.length := by unfold ceOf; rw [List.length_map]
  refine ⟨js, ceOf os, (List.range os.length).map .r ++ ds.map .d, ⟨nd, hb, by rw [hl, hcl], fun i j cl h1 h2 => ?_, ltB_ceOf _ _⟩, ?_, ?_, os, ds, rfl, rfl, hm os ds _ _ (fun r os' hr hl' => ?_) hR⟩
  · obtain ⟨o, h3, rfl⟩ := ceOf_get h2
    obtain ⟨o', h4, h5⟩ := ow.get h1
    rw [h3] at h4
    cases h4
    rw [h5]
    show _ = some (Cell.nd o.1 _)
    rw [ren_map]
  · rw [e1, List.map_append, ren_map, List.map_map]
    congr 1
    rw [← hl]
    apply List.ext_getElem?
    intro i
    by_cases hi : i < js.length
    · rw [List.getElem?_map, List.getElem?_map, List.getElem?_range hi, jsF_in (len := s1.ce.length) hi]
      rfl
    · rw [List.getElem?_eq_none (by rw [List.length_map]; omega), List.getElem?_eq_none (by rw [List.length_map, List.length_range]; omega)]
  · rw [List.all_append, lt_ds, Bool.and_true, List.all_map, List.all_eq_true]
    intro i hi
    have := List.mem_range.mp hi
    show decide (i < js.length) = true
    rw [hl]; exact decide_eq_true this
  · have hcl' : (ceOf os').length = os'.length := by unfold ceOf; rw [List.length_map]
    cases r with
    | dat y =>
      show Φ (.d y) (s1.back js (ceOf os'))
      have : s1.back js (ceOf os') = s1.puts js os' := by
        unfold S.back
        rw [puts_eq, List.take_of_length_le (by omega), List.drop_of_length_le (by omega), ren_ceOf, List.map_nil, List.append_nil]
      rw [this]; exact hr
    | new kd d2 =>
      show Φ (E.r (jsF js s1.ce.length os.length)) (s1.back js (ceOf os' ++ [.nd kd (d2.map .d)]))
      have e2 : jsF js s1.ce.length os.length = (s1.puts js os').ce.length := by
        rw [jsF_out (by omega), hl, Nat.sub_self, puts_eq]
        show _ = (setMany _ _ _).length
        rw [setMany_len]; rfl
      have e3 : s1.back js (ceOf os' ++ [.nd kd (d2.map .d)]) = (s1.puts js os').push kd (d2.map .d) := by
        unfold S.back
        rw [List.take_left' (by omega), List.drop_left' (by omega), ren_ceOf, puts_eq]
        show (⟨_, _ ++ [Cell.nd kd _], _⟩ : S) = ⟨_, _ ++ [Cell.nd kd _], _⟩
        rw [ren_map]
      rw [e2, e3]; exact hr
end DL
namespace DL
open PySem PySem.Spec PyProof.Rows L2
variable {X : Cx} {F : Fr} {s : S}
section
variable {e a b c : Expr} {es rest : List Expr} {Φ : E → S → Prop} {pos p p2 : Pos} {x : Str} {k B : Nat}
/-! ### owned arguments, step by step -/
def OnK (s : S) (vs : List E) (Q : List Nat → List (Kd × List D) → List D → Prop) : Prop := ∃ js os ds, vs = js.map .r ++ ds.map .d ∧ OwnsJ s js os ∧ Q js os ds
theorem on_ds {vs : List E} {ds : List D} {Q : List Nat → List (Kd × List D) → List D → Prop} (h : dsOf vs = some ds) (q : Q [] [] ds) : OnK s vs Q := ⟨[], [], ds, dsOf_eq h, trivial, q⟩
theorem on_r {vs : List E} {j : Nat} {kd : Kd} {es : List E} {ds : List D} {Q : List Nat → List (Kd × List D) → List D → Prop} (h1 : nth s.ce j = some (.nd kd es)) (h2 : dsOf es = some ds) (q : OnK s vs fun js os dd => Q (j :: js) ((kd, ds) :: os) dd) : OnK s (.r j :: vs) Q := by
  obtain ⟨js, os, dd, e1, e2, q⟩ := q
  exact ⟨j :: js, (kd, ds) :: os, dd, by rw [e1]; rfl, ⟨⟨es, h1, h2⟩, e2⟩, q⟩
theorem je_callNK {R : RCs} (cb : CbS X x k (RSn R)) (bx : Bx X B) (hB : k ≤ B) (hm : MonoN R)
    (h : JA X F (a :: es) s fun vs s1 => OnK s1 vs fun js os ds => js.Nodup ∧ R os ds fun r os' => RtΦ Φ (s1.puts js os') r) (hdb : (x == ("__debug__" : Str)) = false := by decide)
    (he : starEach (a :: es) X.env = (false, eval a X.env) :: starEach es X.env := by rfl) (hpl : (backTo pos (starEach es X.env)).any (·.1) = false := by rfl) : JE X F (.Call (.Name x p) (a :: es) [] pos) s Φ :=
  je_callN cb bx hB (fun as G H σ Q c kk => h as G H σ Q c fun vs as' G' H' es' s1 c' x ve ⟨js, os, ds, e1, e2, nd, q⟩ => kk vs as' G' H' es' s1 c' x ve ⟨js, os, ds, e1, nd, e2, q⟩) hdb he hpl hm
/-! ### in a list of texts -/
theorem inV_strs {z : Str} : ∀ ts : List Str, inV (.str z) (ts.map V.str) = decide (z ∈ ts)
  | [] => by simp [inV]
  | t :: ts => by
    have ih := inV_strs (z := z) ts
    unfold inV at ih ⊢
    rw [List.map_cons, List.any_cons, ih]
    by_cases h : z = t
    · subst h; simp [eqV]
    · have h2 : ¬ t = z := fun q => h q.symm
      simp [eqV, h, h2]
theorem flat_strs (ts : List Str) : (ts.map V.str).all flatV = true := by rw [List.all_map, List.all_eq_true]; intro t _; rfl
theorem reps_str {K : PySem.W.Frag} {G : Hp} : ∀ {ts : List Str} {vs : List V}, Reps K G vs (ts.map D.str) → vs = ts.map V.str
  | [], _, .nil => rfl
  | t :: ts, _, .cons a b => by cases a; rw [reps_str b]; rfl
theorem jr_inStrs {e2 : E} {z : Str} {kd : Kd} {ts : List Str} (h : s.node e2 = some (kd, (ts.map D.str).map .d)) (hk : kd = .lst ∨ kd = .tup) (q : Φ (.d (.bl (decide (z ∈ ts)))) s) : JR X F (compareOp .In) (.d (.str z)) e2 s Φ :=
  jr_of op_in_seq fun as G H σ x y Q c v1 v2 kk => by
    cases v1
    obtain ⟨a, vs, rfl, n, ves⟩ := c.node v2 h
    obtain rfl := reps_str ves.reps
    refine ⟨a, _, rfl, ?_, rfl, flat_strs ts, ?_⟩
    · rcases hk with rfl | rfl
      · exact .inl n
      · exact .inr n
    · rw [inV_strs]; exact kk _ as G H _ s c (Ext.refl _ _) (Rep.bl _) q
theorem jr_ninStrs {e2 : E} {z : Str} {kd : Kd} {ts : List Str} (h : s.node e2 = some (kd, (ts.map D.str).map .d)) (hk : kd = .lst ∨ kd = .tup) (q : Φ (.d (.bl (!decide (z ∈ ts)))) s) : JR X F (compareOp .NotIn) (.d (.str z)) e2 s Φ :=
  jr_of op_notIn_seq fun as G H σ x y Q c v1 v2 kk => by
    cases v1
    obtain ⟨a, vs, rfl, n, ves⟩ := c.node v2 h
    obtain rfl := reps_str ves.reps
    refine ⟨a, _, rfl, ?_, rfl, flat_strs ts, ?_⟩
    · rcases hk with rfl | rfl
      · exact .inl n
      · exact .inr n
    · rw [inV_strs]; exact kk _ as G H _ s c (Ext.refl _ _) (Rep.bl _) q
/-! ### ''.join(a list of texts) -/
theorem je_join {o : Expr} {apos : Pos} (h : JE X F o s fun eo s1 => ∃ sep, eo = .d (.str sep) ∧ JE X F a s1 fun e1 s2 => ∃ kd ts, s2.node e1 = some (kd, (ts.map D.str).map .d) ∧ (kd = .lst ∨ kd = .tup) ∧ (ts.map (·.length)).sum + ts.length * sep.length ≤ 16777216 ∧ Φ (.d (.str (Txt.join sep ts))) s2)
    (ns : NoStar a := by intro _ _; rfl) (hbase : attributeBase o "join" X.env (eval o X.env) = eval o X.env := by rfl) (hline : (apos.endLine == pos.line) = true := by rfl) : JE X F (.Call (.Attribute o "join" apos) [a] [] pos) s Φ :=
  je_of (pe_join (pe_sem X o) (pe_sem X a) (ns _ _) hbase hline) fun as G H σ Q c k => h as G H σ _ c fun v as1 G1 H1 eo s1 c1 x1 ve ⟨sep, q1, h1⟩ => by
    subst q1
    cases ve
    refine ⟨⟨sep, rfl⟩, h1 as1 G1 H1 σ _ c1 fun v2 as2 G2 H2 e2 s2 c2 x2 ve2 ⟨kd, ts, q2, q3, q4, q5⟩ => ?_⟩
    obtain ⟨a, vs, rfl, n, ves⟩ := c2.node ve2 q2
    obtain rfl := reps_str ves.reps
    refine ⟨sep, a, ts, rfl, rfl, ?_, q4, k _ as2 G2 H2 _ s2 c2 (x1.trans x2) (Rep.str _) q5⟩
    rcases q3 with rfl | rfl
    · exact .inl n
    · exact .inr n
/-! ### a, b = a list -/
theorem jg_lst {k1 : Nat} {v : E} {vs : List E} {Φ : S → Prop} (bx : Bx X B) (hn : s.node v = some (.lst, vs)) (hl : vs.length = es.length) (h : JGs X F es vs s Φ)
    (hn2 : (assignEach es X.env).length = es.length := by rfl) (hst : (assignEach es X.env).findIdx? (·.1) = none := by rfl) : JG X F (.Tuple es k1 p) v s Φ :=
  fun as G H σ u Q c ve k => by
    obtain ⟨a, ws, rfl, n, we⟩ := c.node ve hn
    exact PG.sem (pg_lst (n := es.length) bx.calm (pgs_sem X es) hn2 hst) ⟨a, ws, rfl, n, by rw [Paired.length we, hl], fun pins st us I r => h as G H σ ws Q c we k pins st us I r⟩
/-! ### list + list, slices -/
theorem op_catS : OpR X (binaryOp .Add) (fun x y H Q => ∃ l b xs zs, x = .ref l ∧ y = .ref b ∧ SqL X.K H l xs ∧ SqL X.K H b zs ∧ xs.length + zs.length ≤ sizeLine ∧ ∀ p, H p = none → Q (.ref p) (upd H p (.lst (xs ++ zs)))) := by
  intro pins s σ H x y v u Q I rx ry h
  obtain ⟨l, b, xs, zs, rfl, rfl, hH, hB, hz, q⟩ := h
  cases rx
  cases ry
  obtain ⟨its, r, ⟨⟨cls, dd, data, sl⟩, n, e, e3, e4, e5⟩, z⟩ := I.list hH
  obtain ⟨its2, r2, ⟨⟨cls2, dd2, data2, sl2⟩, n2, f, f3, f4, f5⟩, z2⟩ := I.list hB
  simp only at e3 e4 e5 f3 f4 f5
  subst e3 e4 e5 f3 f4 f5
  have hsz : its.length + its2.length ≤ sizeLine := by rw [← r.length, ← r2.length]; exact hz
  refine concat_meets ⟨_, e, rfl⟩ ⟨_, f, rfl⟩ noFill_list_add seq_list_add PySem.F.slot_list_add PySem.F.entry_list_add (PySem.F.args_list_add_2 _ _) (list_addW l b its.toArray its2.toArray n n2 .none .none sl sl2 (by simpa using hsz)) ⟨e, f, ?_⟩
  have ea : its.toArray ++ its2.toArray = (its ++ its2).toArray := by simp
  rw [ea]
  exact ⟨.ref _, _, I.lnew (t' := s.toks) (r.append r2) (by rw [List.length_append]; omega), rfl, q _ I.fresh⟩
/-- xs + ys, lists: a new one, frozen -/
theorem jr_cat {e1 e2 : E} {ds1 ds2 : List D} (h1 : s.node e1 = some (.lst, ds1.map .d)) (h2 : s.node e2 = some (.lst, ds2.map .d)) (hl : ds1.length + ds2.length ≤ sizeLine) (q : Φ (.d (.nd .lst (ds1 ++ ds2))) s) : JR X F (binaryOp .Add) e1 e2 s Φ :=
  jr_of op_catS fun as G H σ x y Q c v1 v2 k => by
    obtain ⟨a, vs, rfl, n1, w1⟩ := c.node v1 h1
    obtain ⟨b, ws, rfl, n2, w2⟩ := c.node v2 h2
    refine ⟨a, b, vs, ws, rfl, rfl, n1, n2, by rw [w1.reps.length, w2.reps.length]; exact hl, fun p hp => ?_⟩
    have sg : Same G (upd G p (.lst (vs ++ ws))) := same_new (c.gnone hp)
    exact k _ as _ _ (.d (.nd .lst (ds1 ++ ds2))) s (c.addG hp) ⟨List.prefix_refl _, sg⟩ (.nd (SqL.of upd_same) ((w1.reps.append w2.reps).mono sg)) q
/-- xs[lo:hi] -/
def cutD (ds : List D) (lo hi : Option Int) : List D := (ds.drop (HT.sIx ds.length 0 lo)).take (HT.sIx ds.length ds.length hi - HT.sIx ds.length 0 lo)
theorem reps_cut {K : PySem.W.Frag} {G : Hp} {vs : List V} {ds : List D} (r : Reps K G vs ds) (lo hi : Option Int) : Reps K G (cutV vs lo hi) (cutD ds lo hi) := by
  unfold cutV cutD
  rw [r.length]
  exact (r.drop _).take _
theorem je_sliceL {lo hi : Option Expr} {p2 : Pos} (h : JE X F a s fun e s1 => JO X F lo s1 fun l s2 => JO X F hi s2 fun u s3 => ∃ ds, s3.node e = some (.lst, ds.map .d) ∧ Φ (.d (.nd .lst (cutD ds l u))) s3) : JE X F (.Subscript a (.Slice lo hi none p2) pos) s Φ :=
  je_of (pe_slice sl_list (pe_sem X a) (po_sem X lo) (po_sem X hi)) fun as G H σ Q c k => h as G H σ _ c fun v as1 G1 H1 e1 s1 c1 x1 ve h1 => jo_run h1 c1 fun l as2 G2 H2 s2 c2 x2 h2 => jo_run h2 c2 fun u as3 G3 H3 s3 c3 x3 ⟨ds, q1, q2⟩ => by
    obtain ⟨a, vs, rfl, n, w⟩ := c3.node ((x2.trans x3).ve ve) q1
    refine ⟨a, vs, rfl, n, fun p hp => ?_⟩
    have sg : Same G3 (upd G3 p (.lst (cutV vs l u))) := same_new (c3.gnone hp)
    exact k _ as3 _ _ (.d (.nd .lst (cutD ds l u))) s3 (c3.addG hp) (((x1.trans x2).trans x3).trans ⟨List.prefix_refl _, sg⟩) (.nd (SqL.of upd_same) ((reps_cut w.reps l u).mono sg)) q2
end
end DL
namespace DL
open PySem PySem.Spec PyProof.Rows L2
variable {X : Cx} {F : Fr} {s : S}
/-! ### the last cell frozen and dropped -/
def TidyB (s : S) : Bool := s.sl.all (E.ltB s.ce.length) && s.ce.all (Cell.ltB s.ce.length) && decide (s.ar ≤ s.ce.length)
theorem Cz.popT {as' : List Addr} {G' H' : Hp} {σ : L2.St} {kd : Kd} {ds : List D} (c' : Cz X F as' G' H' σ (s.push kd (ds.map .d))) (ht : TidyB s = true) :
    ∃ G2, Cz X F (as'.take s.ce.length) G2 H' σ s ∧ Same G' G2 ∧ ∀ q, as'[s.ce.length]? = some q → Rep X.K G2 (.ref q) (.nd kd ds) := by
  unfold TidyB at ht
  simp only [Bool.and_eq_true, decide_eq_true_eq] at ht
  obtain ⟨⟨t1, t2⟩, t3⟩ := ht
  have w : Wk (s.push kd (ds.map .d)) s := ⟨fun i e h => h, rfl, ⟨_, rfl⟩, rfl, t3⟩
  have c2 := c'.weak' w t1 t2
  obtain ⟨q, hq⟩ : ∃ q, as'[s.ce.length]? = some q := by
    have : s.ce.length < as'.length := by
      rw [c'.len]
      show _ < (s.ce ++ [Cell.nd kd (ds.map .d)]).length
      simp
    exact ⟨_, List.getElem?_eq_getElem this⟩
  have hce : (s.push kd (ds.map .d)).ce[s.ce.length]? = some (.nd kd (ds.map .d)) := by
    show (s.ce ++ [Cell.nd kd (ds.map .d)])[s.ce.length]? = _
    rw [List.getElem?_append_right (Nat.le_refl _)]; simp
  obtain ⟨q', vs, g1, g2, g3⟩ := c'.cells _ _ _ hce
  rw [hq] at g1
  cases g1
  obtain ⟨o, ho⟩ := g2.some
  have gn : G' q = none := c'.own _ _ _ _ hq hce
  have nin : q ∉ as'.take s.ce.length := fun z => by
    obtain ⟨j, hj⟩ := List.getElem?_of_mem z
    have l3 := (List.getElem?_eq_some_iff.mp hj).1
    rw [List.length_take] at l3
    rw [List.getElem?_take_of_lt (by omega)] at hj
    have := nodup_get c'.nd hj hq
    omega
  have h0 : F.H0 q = none := (c'.fresh q (List.mem_of_getElem? hq)).resolve_left fun z => by
    have := c2.pre.subset z
    exact nin this
  refine ⟨upd G' q o, c2.frzG ho gn nin h0, same_new gn, fun q2 hq2 => ?_⟩
  rw [hq] at hq2
  cases hq2
  have cg : CellAt (upd G' q o) q vs kd := g2.keep fun u z => by rw [upd_same, ← ho, z]
  exact .nd cg.node (g3.reps.mono (same_new gn))
section
variable {e a b c elt iter : Expr} {es rest ifs : List Expr} {Φ : E → S → Prop} {pos p p2 : Pos} {x : Str} {k B : Nat} {scope : Scope} {own : List (Str × Nat)} {j : Nat}
theorem je_popT (h : JE X F e s fun e1 s1 => ∃ s0 kd ds, e1 = .r s0.ce.length ∧ s1 = s0.push kd (ds.map .d) ∧ s.ce.length ≤ s0.ce.length ∧ TidyB s0 = true ∧ Φ (.d (.nd kd ds)) s0) : JE X F e s Φ := fun as G H σ Q c k =>
  h as G H σ Q c fun v as1 G1 H1 e1 s1 c1 x1 ve ⟨s0, kd, ds, q1, q2, q3, q4, q5⟩ => by
    subst q1 q2
    obtain ⟨G2, c2, sg, rep⟩ := c1.popT q4
    obtain ⟨q, hq, rfl⟩ := ve
    refine k _ _ G2 H1 _ s0 c2 ⟨?_, x1.sub.trans sg⟩ (rep q hq) q5
    obtain ⟨t, rfl⟩ := x1.pre
    rw [List.take_append]
    have : as.length ≤ s0.ce.length := by rw [c.len]; exact q3
    rw [List.take_of_length_le this]
    exact ⟨_, rfl⟩
/-! ### comprehensions whose elements write to owned cells -/
/-- the state in the block -/
def S.blkI (t : S) (ds : List D) (j : Nat) (v : E) : S := (t.push .lst (ds.map .d)).set j v
def LcI (X : Cx) (F : Fr) (tg iter elt : Expr) (scope : Scope) (vs : List Nat) (j : Nat) (s : S) (Θ : List D → S → Prop) : Prop :=
  JI X F tg iter s fun n it s1 => n ≤ 16000000 ∧ ∃ In : Nat → List D → S → Prop, In 0 [] (s1.wipe vs) ∧
    (∀ i v ds t, i < n → it i v → ds.length = i → In i ds t → t.wipe vs = t ∧ t.ce.length = s1.ce.length ∧ ∀ Y, IsBlk X scope Y → JE Y F elt (t.blkI ds j v) fun y s3 => ∃ d t', y = .d d ∧ s3 = t'.blkI ds j v ∧ t'.wipe vs = t' ∧ t'.ce.length = s1.ce.length ∧ In (i + 1) (ds ++ [d]) t') ∧
    ∀ ds t, ds.length = n → In n ds t → t.ce.length = s1.ce.length ∧ Θ ds ⟨s1.sl, t.ce, s1.ar⟩
theorem lc_imp {Θ : List D → S → Prop} (hj : j ∈ own.map (·.2)) {n : Nat} {it : Nat → E → Prop} {s1 : S} {In : Nat → List D → S → Prop} (hn : n ≤ 16000000) (w0 : (s1.wipe (own.map (·.2))).wipe (own.map (·.2)) = s1.wipe (own.map (·.2))) (h0 : In 0 [] (s1.wipe (own.map (·.2))))
    (ht : ∀ i v ds t, i < n → it i v → ds.length = i → In i ds t → t.wipe (own.map (·.2)) = t ∧ t.ce.length = s1.ce.length ∧ ∀ Y, IsBlk X scope Y → JE Y F elt (t.blkI ds j v) fun y s3 => ∃ d t', y = .d d ∧ s3 = t'.blkI ds j v ∧ t'.wipe (own.map (·.2)) = t' ∧ t'.ce.length = s1.ce.length ∧ In (i + 1) (ds ++ [d]) t') :
    let In' : Nat → List E → S → Prop := fun i acc s' => ∃ ds t, ds.length = i ∧ acc = ds.map .d ∧ s' = t.push .lst acc ∧ t.wipe (own.map (·.2)) = t ∧ t.ce.length = s1.ce.length ∧ In i ds t
    In' 0 [] ((s1.wipe (own.map (·.2))).push .lst []) ∧
      (∀ i v acc s', i < n → it i v → In' i acc s' → nth s'.ce s1.ce.length = some (.nd .lst acc) ∧ ∀ Y, IsBlk X scope Y → JTs Y F ([] : List Expr) (s'.set j v) fun b s2 =>
        if b = true then ∀ Y2, IsBlk X scope Y2 → JE Y2 F elt s2 fun y s3 => nth s3.ce s1.ce.length = some (.nd .lst acc) ∧ acc.length < sizeLine ∧ In' (i + 1) (acc ++ [y]) ((s3.put s1.ce.length .lst (acc ++ [y])).wipe (own.map (·.2)))
        else In' (i + 1) acc (s2.wipe (own.map (·.2)))) := by
  intro In'
  have cel : ∀ (t : S) (l : List E), t.ce.length = s1.ce.length → nth (t.push .lst l).ce s1.ce.length = some (.nd .lst l) := fun t l hl => by
    rw [nth_eq]
    show (t.ce ++ [Cell.nd .lst l])[s1.ce.length]? = _
    rw [← hl, List.getElem?_append_right (Nat.le_refl _)]
    simp
  refine ⟨⟨[], _, rfl, rfl, rfl, w0, rfl, h0⟩, ?_⟩
  rintro i v acc s' hi hv ⟨ds, t, hdl, rfl, rfl, hw, hl, hI⟩
  obtain ⟨_, _, hJ⟩ := ht i v ds t hi hv hdl hI
  refine ⟨cel t _ hl, fun Y hY => ?_⟩
  dsimp only [JTs]
  refine L2.iteT ?_
  refine fun Y2 hY2 => (hJ Y2 hY2).mono fun y s3 ⟨d, t', e1, e2, e3, e4, e5⟩ => ?_
  subst e1 e2
  refine ⟨cel t' _ e4, by rw [List.length_map, sizeLine_eq]; omega, ds ++ [d], t', by simp [hdl], by simp, ?_, e3, e4, e5⟩
  have hput : ((t'.push .lst (ds.map .d)).set j v).put s1.ce.length .lst (ds.map .d ++ [.d d]) = (t'.push .lst (ds.map .d ++ [.d d])).set j v := by
    show (⟨_, setN (t'.ce ++ [Cell.nd .lst _]) s1.ce.length _, _⟩ : S) = ⟨_, t'.ce ++ [_], _⟩
    rw [setN_eq, ← e4, List.set_append_right _ _ (Nat.le_refl _)]
    simp
    exact ⟨rfl, rfl⟩
  show (((t'.push .lst (ds.map .d)).set j v).put s1.ce.length .lst (ds.map .d ++ [.d d])).wipe _ = _
  rw [hput, set_wipe hj]
  have e6 : wipeN t'.sl (own.map (·.2)) = t'.sl := congrArg S.sl e3
  show (⟨wipeN t'.sl _, _, _⟩ : S) = ⟨t'.sl, _, _⟩
  rw [e6]
  rfl
/-- [..], owned -/
theorem je_lcI (bx : Bx X B) (ok : BlkOk X.N X.env.scope scope own) (hj : j ∈ own.map (·.2)) (hn : ∀ Y, IsBlk X scope Y → NmW Y j x)
    (h : LcI X F (.Name x p) iter elt scope (own.map (·.2)) j s fun ds t => Φ (.r t.ce.length) (t.push .lst (ds.map .d)))
    (hs : ∀ x, foldedSetIterable iter X.env x = pure x := by intro _; rfl) : JE X F (.ListComp elt [⟨.Name x p, iter, [], 0⟩] scope pos) s Φ := by
  refine je_lc bx ok hj hn (fun as G H σ R c k => h as G H σ R c fun J as1 G1 H1 s1 n it c1 x1 okJ ⟨q1, In, q2, q3, q4⟩ => ?_) hs
  have z := lc_imp (Θ := fun _ _ => True) hj q1 wipe_wipe q2 q3
  refine k J as1 G1 H1 s1 n it c1 x1 okJ ⟨_, z.1, z.2, ?_⟩
  rintro acc s' ⟨ds, t, hdl, rfl, rfl, hw, hl, hI⟩
  obtain ⟨e1, e2⟩ := q4 ds t hdl hI
  rw [← e1]
  exact e2
/-- .. frozen -/
theorem je_lcF (bx : Bx X B) (ok : BlkOk X.N X.env.scope scope own) (hj : j ∈ own.map (·.2)) (hn : ∀ Y, IsBlk X scope Y → NmW Y j x)
    (h : LcI X F (.Name x p) iter elt scope (own.map (·.2)) j s fun ds t => s.ce.length ≤ t.ce.length ∧ TidyB t = true ∧ Φ (.d (.nd .lst ds)) t)
    (hs : ∀ x, foldedSetIterable iter X.env x = pure x := by intro _; rfl) : JE X F (.ListComp elt [⟨.Name x p, iter, [], 0⟩] scope pos) s Φ :=
  je_popT (je_lcI bx ok hj hn (fun as G H σ R c k => h as G H σ R c fun J as1 G1 H1 s1 n it c1 x1 okJ ⟨q1, In, q2, q3, q4⟩ => k J as1 G1 H1 s1 n it c1 x1 okJ ⟨q1, In, q2, q3, fun ds t hd hI => by
    obtain ⟨e1, e2, e3, e4⟩ := q4 ds t hd hI
    exact ⟨e1, _, _, ds, rfl, rfl, e2, e3, e4⟩⟩) hs)
/-- name = [..] on one line, owned -/
theorem js_setLcI {i : Nat} {y : Str} {py spos : Pos} {P : Po} (bx : Bx X B) (ny : NmW X i y) (ly : X.env.scope.names.lookup y = some .local) (hsw : swapsWith (.ListComp elt [⟨.Name x p, iter, [], 0⟩] scope pos) (some (.Name y py)) spos.line X.env = pure true)
    (ok : BlkOk X.N X.env.scope scope own) (hj : j ∈ own.map (·.2)) (hn : ∀ Y, IsBlk X scope Y → NmW Y j x)
    (h : LcI X F (.Name x p) iter elt scope (own.map (·.2)) j s fun ds t => P.nx ((t.push .lst (ds.map .d)).set i (.r t.ce.length)))
    (hs : ∀ x, foldedSetIterable iter X.env x = pure x := by intro _; rfl) : JS X F (.Assign [.Name y py] (.ListComp elt [⟨.Name x p, iter, [], 0⟩] scope pos) spos) s P := by
  refine js_setLc bx ny ly hsw ok hj hn (fun as G H σ R c k => h as G H σ R c fun J as1 G1 H1 s1 n it c1 x1 okJ ⟨q1, In, q2, q3, q4⟩ => ?_) hs
  have z := lc_imp (Θ := fun _ _ => True) hj q1 wipe_wipe q2 q3
  refine k J as1 G1 H1 s1 n it c1 x1 okJ ⟨_, z.1, z.2, ?_⟩
  rintro acc s' ⟨ds, t, hdl, rfl, rfl, hw, hl, hI⟩
  obtain ⟨e1, e2⟩ := q4 ds t hdl hI
  rw [← e1]
  exact e2
end
end DL
namespace DL
open PySem PySem.Spec PyProof.Rows L2
variable {X : Cx} {F : Fr} {s : S}
section
variable {elt iter kx vx c0 : Expr} {scope : Scope} {own : List (Str × Nat)} {pos p : Pos} {x : Str} {j B : Nat} {Φ : E → S → Prop}
/-! ### a dict comprehension with a test -/
def dcT (kf : Nat → Key) (f : Nat → D) (g : Nat → Bool) : Nat → List Key × List D
  | 0 => ([], [])
  | n + 1 => if g n = true then (dpK (dcT kf f g n).1 (kf n), dpV (dcT kf f g n).1 (dcT kf f g n).2 (kf n) (f n)) else dcT kf f g n
theorem dcT_ok (kf : Nat → Key) (f : Nat → D) (g : Nat → Bool) : ∀ n, (dcT kf f g n).1.length = (dcT kf f g n).2.length ∧ (dcT kf f g n).1.Nodup ∧ (dcT kf f g n).1.length ≤ n
  | 0 => ⟨rfl, List.nodup_nil, Nat.le_refl _⟩
  | n + 1 => by
    obtain ⟨h1, h2, h3⟩ := dcT_ok kf f g n
    unfold dcT
    split
    · refine ⟨dpV_len h1, dpK_nodup h2, ?_⟩
      show (dpK (dcT kf f g n).1 (kf n)).length ≤ n + 1
      unfold dpK
      split
      · omega
      · simp; omega
    · exact ⟨h1, h2, by omega⟩
theorem dcT_keys (kf : Nat → Key) (f : Nat → D) (g : Nat → Bool) : ∀ n, ∀ k ∈ (dcT kf f g n).1, ∃ i, i < n ∧ k = kf i
  | 0, k, h => by cases h
  | n + 1, k, h => by
    unfold dcT at h
    split at h
    · have h : k ∈ dpK (dcT kf f g n).1 (kf n) := h
      unfold dpK at h
      split at h
      · obtain ⟨i, h1, h2⟩ := dcT_keys kf f g n k h
        exact ⟨i, by omega, h2⟩
      · rcases List.mem_append.mp h with h | h
        · obtain ⟨i, h1, h2⟩ := dcT_keys kf f g n k h
          exact ⟨i, by omega, h2⟩
        · exact ⟨n, by omega, by simpa using h⟩
    · obtain ⟨i, h1, h2⟩ := dcT_keys kf f g n k h
      exact ⟨i, by omega, h2⟩
/-- the keys all different -/
theorem dcT_inj {kf : Nat → Key} {f : Nat → D} {g : Nat → Bool} : ∀ {n : Nat}, (∀ i j, i < j → j < n → kf i ≠ kf j) → dcT kf f g n = (((List.range n).filter g).map kf, ((List.range n).filter g).map f)
  | 0, _ => rfl
  | n + 1, h => by
    have ih := dcT_inj (f := f) (g := g) (n := n) fun i j h1 h2 => h i j h1 (by omega)
    have hm : ¬ memK (kf n) (dcT kf f g n).1 = true := fun z => by
      obtain ⟨i, h1, h2⟩ := dcT_keys kf f g n _ (memK_iff.mp z)
      exact h i n h1 (by omega) h2.symm
    rw [List.range_succ, List.filter_append]
    show (if g n = true then _ else _) = _
    by_cases hg : g n = true
    · rw [if_pos hg]
      unfold dpK dpV
      rw [if_neg hm, if_neg hm, ih]
      simp [List.filter_cons, hg]
    · rw [if_neg hg, ih]
      simp [List.filter_cons, hg]
def DcT (X : Cx) (F : Fr) (tg iter c0 kx vx : Expr) (scope : Scope) (vs : List Nat) (j : Nat) (s : S) (Φ : List Key → List D → Prop) : Prop :=
  JI X F tg iter s fun n it s1 => s1 = s ∧ n ≤ 16000000 ∧ ∃ (kf : Nat → Key) (f : Nat → D) (g : Nat → Bool), (∀ i v, i < n → it i v → (∀ Y F, IsBlk X scope Y → JT Y F c0 (s.dblk vs j v) fun b s3 => b = g i ∧ s3 = s.dblk vs j v) ∧ (g i = true → Pure1 X scope kx (s.dblk vs j v) (kD (kf i)) ∧ Pure1 X scope vx (s.dblk vs j v) (f i))) ∧ Φ (dcT kf f g n).1 (dcT kf f g n).2
theorem dcT_read {Φ : List Key → List D → Prop} (hj : j ∈ own.map (·.2)) (h : DcT X F (.Name x p) iter c0 kx vx scope (own.map (·.2)) j s Φ) :
    ∀ as G H σ (Q : VK), Cz X F as G H σ s → (∀ D as' G' H' vs ks ds, Cz X F as' G' H' σ s → Ext as as' G G' → H' D = some (.dK (ks.zip vs)) → G' D = none → D ∉ as' → F.H0 D = none → Reps X.K G' vs ds → ks.length = vs.length → ks.Nodup → Φ ks ds → Q (.ref D) H') →
      tDc (semI X (.Name x p) iter) (gName j) (ttB X scope [c0]) (teB X scope kx) (teB X scope vx) (own.map (·.2)) σ H Q := by
  refine fun as G H σ Q c k => h as G H σ _ c fun J as1 G1 H1 s1 n it c1 x1 okJ ⟨q1, q2, kf, f, g, q3, q4⟩ => ?_
  subst q1
  intro D hD
  have gD := c1.gnone hD
  have nD := c1.notin hD
  have hD0 := c1.h0none hD
  -- the state of a turn
  have keep : ∀ {as' : List Addr} {G' H' : Hp} {σ' : L2.St} {s' : S} {o : HO}, Cz X F as' G' H' σ' s' → G' D = none → D ∉ as' → F.H0 D = none → Cz X F as' G' (upd H' D o) σ' s' := fun {as' G' H' σ' s' o} c' g' n' h0 => by
    refine ⟨fun b u q => ?_, c'.base, c'.new, fun b u w1 w2 => ?_, c'.len, c'.pre, c'.nd, c'.own, c'.fresh, fun a ha => ?_, fun l kd es q => ?_, c'.slots, c'.slen, c'.har⟩
    · rw [upd_ne (ne_of_none q g')]; exact c'.sub b u q
    · rw [upd_ne (ne_of_none w1 h0)]; exact c'.frame b u w1 w2
    · rw [upd_ne (fun z => n' (by rw [← z]; exact ha))]; exact c'.there a ha
    · obtain ⟨a, ws, w1, w2, w3⟩ := c'.cells l kd es q
      exact ⟨a, ws, w1, w2.keep fun u z => by rw [upd_ne (fun z => n' (by rw [← z]; exact List.mem_of_getElem? w1))]; exact z, w3⟩
  have c1' := keep (o := .dK []) (c1.wipe (own.map (·.2))) gD nD hD0
  refine ⟨fun i m H' => m = n - i ∧ i ≤ n ∧ ∃ as' G' vs, Cz X F as' G' H' (wipe σ (own.map (·.2))) (s1.wipe (own.map (·.2))) ∧ Ext as1 as' G1 G' ∧ H' D = some (.dK ((dcT kf f g i).1.zip vs)) ∧ G' D = none ∧ D ∉ as' ∧ Reps X.K G' vs (dcT kf f g i).2, ⟨n, by simp, Nat.zero_le _, as1, G1, [], c1', Ext.refl _ _, upd_same, gD, nD, .nil⟩, ?_⟩
  rintro i m H' ⟨rfl, hi, as', G', vs, c', x', hd, g', n', rs⟩
  by_cases hlt : i < n
  · refine .inr ⟨okJ.go i as' G' H' _ _ hlt c' x'.sub, fun H2 => ∃ as' G' vs, Cz X F as' G' H2 (wipe σ (own.map (·.2))) (s1.wipe (own.map (·.2))) ∧ Ext as1 as' G1 G' ∧ H2 D = some (.dK ((dcT kf f g (i + 1)).1.zip vs)) ∧ G' D = none ∧ D ∉ as' ∧ Reps X.K G' vs (dcT kf f g (i + 1)).2, fun H2 ⟨as2, G2, vs2, w⟩ => ⟨n - (i + 1), by omega, rfl, hlt, as2, G2, vs2, w⟩, fun v H2 y => ?_⟩
    obtain ⟨G2, e, c2, ⟨x2, gk⟩, ve, hv⟩ := okJ.yld i as' G' H' _ _ v H2 hlt c' x'.sub y
    have hd2 : H2 D = _ := okJ.keep i as' G' H' _ _ v H2 hlt c' x'.sub y D _ hd
    have g2 : G2 D = none := gk D (by rw [hd]; exact fun z => nomatch z) g'
    obtain ⟨t0, t12⟩ := q3 i e hlt hv
    have c3 := c2.set (i := j) ve
    have ws : wipe ((wipe σ (own.map (·.2))).set j (some v)) (own.map (·.2)) = wipe σ (own.map (·.2)) := wipe_same (by rw [List.length_set, wipe_length]) fun l hl => by
      rw [List.getElem?_set_ne (fun z => hl (by rw [← z]; exact hj)), wipe_out' hl]
    have c4 := c3.enter
    refine ⟨ws, fun Y hY pins st I => jts_run (ifs := [c0]) (t0 Y _ hY) (cz_blk hY c4) (fun bb asT GT HT sT cT xT ⟨w1, w2⟩ => ?_) pins st I⟩
    subst w1 w2
    have cT := cz_ublk hY cT
    have gT : GT D = none := cT.new D g2 (by show H2 D ≠ none; rw [hd2]; exact fun z => nomatch z)
    have dT : HT D = _ := cT.frame D _ hd2 n'
    have nT : D ∉ asT := fun z => by
      rcases cT.fresh D z with z | z
      · exact n' z
      · rw [show H2 D = none from z] at hd2; cases hd2
    have cT := c3.leave cT
    have es0 : (S.wipe ⟨(s1.dblk (own.map (·.2)) j e).sl, (s1.dblk (own.map (·.2)) j e).ce, s1.ar⟩ (own.map (·.2))) = s1.wipe (own.map (·.2)) := by
      show (((s1.wipe (own.map (·.2))).set j e).wipe (own.map (·.2))) = _
      rw [set_wipe hj, wipe_wipe]
    by_cases hg : g i = true
    rotate_left
    · have hg : g i = false := by simpa using hg
      rw [hg]
      simp only [Bool.false_eq_true, if_false]
      have c6 := cT.wipe (own.map (·.2))
      rw [ws] at c6
      have c6 : Cz X F asT GT HT (wipe σ (own.map (·.2))) (s1.wipe (own.map (·.2))) := es0 ▸ c6
      have e0 : dcT kf f g (i + 1) = dcT kf f g i := by show (if g i = true then _ else _) = _; rw [if_neg (by rw [hg]; exact Bool.false_ne_true)]
      refine ⟨asT, GT, vs, c6, (x'.trans ⟨List.prefix_refl _, x2⟩).trans xT, ?_, gT, nT, ?_⟩
      · rw [e0]; exact dT
      · rw [e0]; exact rs.mono (x2.trans xT.sub)
    obtain ⟨t1, t2⟩ := t12 hg
    rw [hg]
    simp only [if_true]
    have eT : dcT kf f g (i + 1) = (dpK (dcT kf f g i).1 (kf i), dpV (dcT kf f g i).1 (dcT kf f g i).2 (kf i) (f i)) := by show (if g i = true then _ else _) = _; rw [if_pos hg]
    rw [eT]
    refine fun Y2 hY2 => t1 Y2 _ hY2 asT GT HT _ _ (cz_blk hY2 cT.enter) fun y as5 G5 H5 y' s5 c5 x5 ve5 ⟨w1, w2⟩ => ?_
    subst w1 w2
    have ve5 := rep_kV ve5
    subst ve5
    have c5 := cz_ublk hY2 c5
    have g5 : G5 D = none := c5.new D gT (by show HT D ≠ none; rw [dT]; exact fun z => nomatch z)
    have d5 : H5 D = _ := c5.frame D _ dT nT
    have n5 : D ∉ as5 := fun z => by
      rcases c5.fresh D z with z | z
      · exact nT z
      · rw [show HT D = none from z] at dT; cases dT
    have c5 := cT.leave c5
    refine fun Y3 hY3 => t2 Y3 _ hY3 as5 G5 H5 _ _ (cz_blk hY3 c5.enter) fun y as6 G6 H6 y' s6 c6 x6 ve6 ⟨w1, w2⟩ => ?_
    subst w1 w2
    have ve6 : Rep Y3.K G6 y (f i) := ve6
    rw [hY3.K] at ve6
    have c6 := cz_ublk hY3 c6
    have g6 : G6 D = none := c6.new D g5 (by show H5 D ≠ none; rw [d5]; exact fun z => nomatch z)
    have d6 : H6 D = _ := c6.frame D _ d5 n5
    have n6 : D ∉ as6 := fun z => by
      rcases c6.fresh D z with z | z
      · exact n5 z
      · rw [show H5 D = none from z] at d5; cases d5
    have c6 := (c5.leave c6).wipe (own.map (·.2))
    rw [ws] at c6
    have es : (S.wipe ⟨(s1.dblk (own.map (·.2)) j e).sl, (s1.dblk (own.map (·.2)) j e).ce, s1.ar⟩ (own.map (·.2))) = s1.wipe (own.map (·.2)) := by
      show (((s1.wipe (own.map (·.2))).set j e).wipe (own.map (·.2))) = _
      rw [set_wipe hj, wipe_wipe]
    have c6 : Cz X F as6 G6 H6 (wipe σ (own.map (·.2))) (s1.wipe (own.map (·.2))) := es ▸ c6
    obtain ⟨l1, l2, l3⟩ := dcT_ok kf f g i
    have ll : (dcT kf f g i).1.length = vs.length := by rw [l1, rs.length]
    refine ⟨_, kf i, rfl, d6, ?_, as6, G6, dpV (dcT kf f g i).1 vs (kf i) y, keep c6 g6 n6 hD0, ?_, ?_, g6, n6, ?_⟩
    · rw [List.length_zip, ← ll, Nat.min_self, sizeLine_eq]; omega
    · exact (x'.trans ⟨List.prefix_refl _, x2⟩).trans (xT.trans (x5.trans x6))
    · rw [upd_same, putK_zip ll]
    · exact reps_dpV ve6 (rs.mono (((x2.trans xT.sub).trans x5.sub).trans x6.sub))
  · have e : i = n := by omega
    subst e
    obtain ⟨l1, l2, l3⟩ := dcT_ok kf f g i
    exact .inl ⟨okJ.stop as' G' H' _ _ c' x'.sub, k D as' G' H' vs _ _ (show Cz X F as' G' H' σ ⟨s1.sl, (s1.wipe (own.map (·.2))).ce, s1.ar⟩ from c1.back c' x') (x1.trans x') hd g' n' hD0 rs (by rw [l1, rs.length]) l2 q4⟩
/-- {k: v for x in iter if c}, pure: the dict, frozen -/
theorem je_dcT (bx : Bx X B) (ok : BlkOk X.N X.env.scope scope own) (hj : j ∈ own.map (·.2)) (hn : ∀ Y, IsBlk X scope Y → NmW Y j x)
    (h : DcT X F (.Name x p) iter c0 kx vx scope (own.map (·.2)) j s fun ks ds => Φ (.d (.nd (.dct ks) ds)) s)
    (hs : ∀ x, foldedSetIterable iter X.env x = pure x := by intro _; rfl) : JE X F (.DictComp kx vx [⟨.Name x p, iter, [c0], 0⟩] scope pos) s Φ := fun as G H σ Q c k =>
  sem_lock (PE.sem (pe_dc bx.calm bx.nd (pi_sem X _ iter) ok (pg_B hn) pts_B pe_B pe_B hs) (dcT_read hj h as G H σ _ c fun D as' G' H' vs ks ds c' x' hd gD nD h0 rs l nd q =>
    ⟨D, _, hd, trivial, fun od => by
      obtain ⟨c2, sg, rep⟩ := frz_dct (od := od) c' gD nD h0 rs l nd
      exact k _ as' _ _ _ s c2 (x'.trans ⟨List.prefix_refl _, sg⟩) rep q⟩))
end
end DL
namespace DL
open PySem PySem.Spec PyProof.Rows L2
variable {X : Cx} {F : Fr} {s : S}
/-! ### sizes -/
def Bd (k : Nat) (x : Int) : Prop := x.natAbs < 2 ^ k
theorem Bd.mul {a b : Nat} {x y : Int} (h1 : Bd a x) (h2 : Bd b y) : Bd (a + b) (x * y) := wide_lt h1 h2
theorem Bd.mono {a b : Nat} {x : Int} (h : Bd a x) (l : a ≤ b) : Bd b x := Nat.lt_of_lt_of_le h (Nat.pow_le_pow_right (by decide) l)
theorem Bd.le {a : Nat} {x y : Int} (h : Bd a x) (l : y.natAbs ≤ x.natAbs) : Bd a y := Nat.lt_of_le_of_lt l h
theorem Bd.sub {a : Nat} {x y : Int} (h1 : Bd a x) (h2 : Bd a y) : Bd (a + 1) (x - y) := by
  unfold Bd at *
  rw [Nat.pow_succ]
  omega
theorem Bd.add {a : Nat} {x y : Int} (h1 : Bd a x) (h2 : Bd a y) : Bd (a + 1) (x + y) := by
  unfold Bd at *
  rw [Nat.pow_succ]
  omega
theorem Bd.neg {a : Nat} {x : Int} (h : Bd a x) : Bd a (-x) := by unfold Bd at *; rw [Int.natAbs_neg]; exact h
theorem Bd.lg {a : Nat} {x : Int} (h : Bd a x) (h0 : 0 < a) : x.natAbs.log2 < a := PySem.Flt.log2_lt_of h0 h
theorem Bd.cmul {a b : Nat} {x y : Int} (h1 : Bd a x) (h2 : Bd b y) (h0 : 0 < a) (h3 : 0 < b) (h : a + b ≤ 1000000) : CMul x y ∨ CMulW x y := .inr (wide_mul h1 h2 h0 h3 h)
theorem Bd.cdiv {a : Nat} {x y : Int} (h1 : Bd a y) (h : 0 < y) (h0 : 0 < a) (h9 : a ≤ 9000) : CDiv x y ∨ CDivW x y := .inr ⟨h, Nat.lt_of_lt_of_le (h1.lg h0) h9⟩
/-! ### fractions as the core's rationals -/
def frQ (x : Rat) : D := .nd .tup [.int x.num, .int x.den]
theorem frQ_inj {x y : Rat} (h : frQ x = frQ y) : x = y := by
  unfold frQ at h
  injection h with _ h
  injection h with h1 h2
  injection h2 with h2 _
  injection h1 with h1
  injection h2 with h2
  exact Rat.ext h1 (by omega)
structure QB (k : Nat) (x : Rat) : Prop where
  n : Bd k x.num
  d : x.den < 2 ^ k
theorem QB.db {k : Nat} {x : Rat} (h : QB k x) : Bd k (x.den : Int) := by unfold Bd; rw [Int.natAbs_natCast]; exact h.d
theorem QB.mono {k l : Nat} {x : Rat} (h : QB k x) (hl : k ≤ l) : QB l x := ⟨h.n.mono hl, Nat.lt_of_lt_of_le h.d (Nat.pow_le_pow_right (by decide) hl)⟩
theorem den_pos' (x : Rat) : (0 : Int) < x.den := by have := x.den_pos; omega
theorem sign_pos {q : Int} (h : 0 < q) : q.sign = 1 := Int.sign_eq_one_of_pos h
/-- (p // g, q // g) -/
theorem frQ_div {p q : Int} (hq : 0 < q) : D.nd .tup [.int (p / (Int.gcd p q : Nat)), .int (q / (Int.gcd p q : Nat))] = frQ (Rat.divInt p q) := by
  unfold frQ
  rw [Rat.num_divInt, Rat.den_divInt, sign_pos hq, Int.one_mul, Int.gcd_comm q p, if_neg (by omega)]
  have : ((q.natAbs / Int.gcd p q : Nat) : Int) = q / (Int.gcd p q : Nat) := by
    rw [Int.natCast_ediv]
    congr 1
    omega
  rw [this]
theorem divInt_neg2 (p q : Int) : Rat.divInt (-p) (-q) = Rat.divInt p q := by
  rw [Rat.divInt_eq_div, Rat.divInt_eq_div, Rat.intCast_neg, Rat.intCast_neg]
  rw [Rat.div_def, Rat.div_def]
  grind
theorem QB.div {k : Nat} {p q : Int} (h1 : Bd k p) (h2 : Bd k q) (hq : 0 < q) : QB k (Rat.divInt p q) := by
  refine ⟨?_, ?_⟩
  · rw [Rat.num_divInt, sign_pos hq, Int.one_mul]
    exact h1.le (Int.natAbs_ediv_le_natAbs _ _)
  · rw [Rat.den_divInt, if_neg (by omega)]
    exact Nat.lt_of_le_of_lt (Nat.div_le_self _ _) h2
theorem q_add (x y : Rat) : Rat.divInt (x.num * y.den + y.num * x.den) (x.den * y.den) = x + y := by
  rw [Rat.add_def', ← Rat.divInt_ofNat, Int.natCast_mul]
theorem q_sub (x y : Rat) : Rat.divInt (x.num * y.den - y.num * x.den) (x.den * y.den) = x - y := by
  rw [Rat.sub_def', ← Rat.divInt_ofNat, Int.natCast_mul]
theorem q_mul (x y : Rat) : Rat.divInt (x.num * y.num) (x.den * y.den) = x * y := by
  rw [Rat.mul_def', ← Rat.divInt_ofNat, Int.natCast_mul]
theorem q_self (x : Rat) : Rat.divInt x.num x.den = x := by rw [Rat.divInt_ofNat, Rat.mkRat_self]
theorem q_over (x y : Rat) : Rat.divInt (x.num * y.den) (x.den * y.num) = x / y := by
  rw [Rat.div_def, Rat.inv_def, ← Rat.divInt_mul_divInt, q_self]
theorem QB.add {k l : Nat} {x y : Rat} (h1 : QB k x) (h2 : QB l y) : QB (k + l + 1) (x + y) := by
  rw [← q_add]
  refine QB.div (((h1.n.mul h2.db)).add ((h2.n.mul h1.db).mono (by omega))) ((h1.db.mul h2.db).mono (by omega)) (Int.mul_pos (den_pos' x) (den_pos' y))
theorem QB.sub {k l : Nat} {x y : Rat} (h1 : QB k x) (h2 : QB l y) : QB (k + l + 1) (x - y) := by
  rw [← q_sub]
  refine QB.div (((h1.n.mul h2.db)).sub ((h2.n.mul h1.db).mono (by omega))) ((h1.db.mul h2.db).mono (by omega)) (Int.mul_pos (den_pos' x) (den_pos' y))
theorem QB.mul {k l : Nat} {x y : Rat} (h1 : QB k x) (h2 : QB l y) : QB (k + l) (x * y) := by
  rw [← q_mul]
  exact QB.div (h1.n.mul h2.n) (h1.db.mul h2.db) (Int.mul_pos (den_pos' x) (den_pos' y))
theorem QB.neg {k : Nat} {x : Rat} (h : QB k x) : QB k (-x) := ⟨by rw [Rat.neg_num]; exact h.n.neg, by rw [Rat.neg_den]; exact h.d⟩
theorem q_pos (x y : Rat) : (0 : Int) < x.den * y.den := Int.mul_pos (den_pos' x) (den_pos' y)
/-! == of fractions -/
theorem dp_frQ {K : PySem.W.Frag} {G H : Hp} {as : List Addr} {v : V} {x : Rat} (sg : Same G H) (ve : VE K G as v (.d (frQ x))) : L2.Dp K H v (.tuple [.int x.num, .int x.den]) := by
  have ve : Rep K G v (.nd .tup [.int x.num, .int x.den]) := ve
  cases ve with
  | nd n r =>
    cases r with
    | cons a r =>
      cases r with
      | cons b r =>
        cases r
        cases a
        cases b
        exact .tup (n.mono sg) (.cons (.int _) (.cons (.int _) .nil))
theorem shaped_frQ (i j : Int) : SeqAt.shaped (.tuple [.int i, .int j]) = true := by rfl
theorem eqv_frQ (x y : Rat) : PyData.eqv (.tuple [.int x.num, .int x.den]) (.tuple [.int y.num, .int y.den]) = decide (x = y) := by
  show ((x.num == y.num) && (((x.den : Int) == (y.den : Int)) && true)) = _
  by_cases h : x = y
  · subst h; simp
  · rw [decide_eq_false h]
    by_cases h1 : x.num = y.num
    · have h2 : ¬ (x.den : Int) = y.den := fun z => h (Rat.ext h1 (by omega))
      simp [h2]
    · simp [h1]
theorem jr_eqQ {B : Nat} {x y : Rat} {Φ : E → S → Prop} (bx : Bx X B) (q : Φ (.d (.bl (decide (x = y)))) s) : JR X F (compareOp .Eq) (.d (frQ x)) (.d (frQ y)) s Φ :=
  jr_of (op_eqD bx.room.units) fun as G H σ v w Q c v1 v2 k =>
    ⟨_, _, dp_frQ c.sub v1, dp_frQ c.sub v2, shaped_frQ _ _, shaped_frQ _ _, by rw [eqv_frQ]; exact k _ as G H _ s c (Ext.refl _ _) (Rep.bl _) q⟩
theorem jr_neQ {B : Nat} {x y : Rat} {Φ : E → S → Prop} (bx : Bx X B) (q : Φ (.d (.bl (!decide (x = y)))) s) : JR X F (compareOp .NotEq) (.d (frQ x)) (.d (frQ y)) s Φ :=
  jr_of (op_neD bx.room.units) fun as G H σ v w Q c v1 v2 k =>
    ⟨_, _, dp_frQ c.sub v1, dp_frQ c.sub v2, shaped_frQ _ _, shaped_frQ _ _, by rw [eqv_frQ]; exact k _ as G H _ s c (Ext.refl _ _) (Rep.bl _) q⟩
end DL
namespace DL
open PySem PySem.Spec PyProof.Rows L2
/-! ### finite maps by text, as lists of pairs -/
abbrev FM (α : Type) := List (Str × α)
variable {α : Type} {f : α → D}
abbrev FM.ks (m : FM α) : List Str := m.map (·.1)
def FM.get (m : FM α) (k : Str) : Option α := (m.find? fun p => decide (p.1 = k)).map (·.2)
def FM.put (m : FM α) (k : Str) (v : α) : FM α := if k ∈ m.ks then m.map (fun p => if p.1 = k then (p.1, v) else p) else m ++ [(k, v)]
def fmK (m : FM α) : List Key := m.ks.map Sum.inr
def fmV (f : α → D) (m : FM α) : List D := m.map fun p => f p.2
def fmD (f : α → D) (m : FM α) : D := .nd (.dct (fmK m)) (fmV f m)
theorem fmK_len (m : FM α) : (fmK m).length = m.length := by unfold fmK FM.ks; simp
theorem fmV_len (m : FM α) : (fmV f m).length = m.length := by unfold fmV; simp
theorem fmK_mem {m : FM α} {k : Str} : (Sum.inr k : Key) ∈ fmK m ↔ k ∈ m.ks := by
  unfold fmK
  constructor
  · intro h
    obtain ⟨a, h1, h2⟩ := List.mem_map.mp h
    cases h2; exact h1
  · intro h; exact List.mem_map_of_mem h
theorem fmK_nd {m : FM α} (h : m.ks.Nodup) : (fmK m).Nodup := nodup_inr h
theorem fm_lk (m : FM α) (k : Str) : lk ((fmK m).zip ((fmV f m).map E.d)) (.inr k) = (m.get k).map fun v => .d (f v) := by
  unfold FM.get lk fmK fmV FM.ks
  induction m with
  | nil => rfl
  | cons p m ih =>
    simp only [List.map_cons, List.zip_cons_cons]
    by_cases h : p.1 = k
    · rw [List.find?_cons_of_pos (by simp [h]), List.find?_cons_of_pos (by simp [h])]; rfl
    · rw [List.find?_cons_of_neg (by simp [h]), List.find?_cons_of_neg (by simp [h])]; exact ih
theorem fm_mem (m : FM α) (k : Str) : memK (.inr k) (fmK m) = decide (k ∈ m.ks) := by
  by_cases h : k ∈ m.ks
  · rw [memK_iff.mpr (fmK_mem.mpr h), decide_eq_true h]
  · rw [decide_eq_false h]
    cases q : memK (.inr k) (fmK m) with
    | false => rfl
    | true => exact absurd (fmK_mem.mp (memK_iff.mp q)) h
theorem FM.put_old {m : FM α} {k : Str} {v : α} (h : k ∈ m.ks) : m.put k v = m.map (fun p => if p.1 = k then (p.1, v) else p) := if_pos h
theorem FM.put_new {m : FM α} {k : Str} {v : α} (h : k ∉ m.ks) : m.put k v = m ++ [(k, v)] := if_neg h
theorem FM.ks_put {m : FM α} {k : Str} {v : α} : (m.put k v).ks = if k ∈ m.ks then m.ks else m.ks ++ [k] := by
  unfold FM.put
  split
  · unfold FM.ks
    rw [List.map_map]
    apply List.map_congr_left
    intro p _
    simp only [Function.comp]
    split <;> rfl
  · unfold FM.ks; simp
theorem fm_dpK {m : FM α} {k : Str} {v : α} : dpK (fmK m) (.inr k) = fmK (m.put k v) := by
  by_cases h : k ∈ m.ks
  · rw [dpK_old (fmK_mem.mpr h)]
    unfold fmK
    rw [FM.ks_put, if_pos h]
  · rw [dpK_new (fun z => h (fmK_mem.mp z))]
    unfold fmK
    rw [FM.ks_put, if_neg h, List.map_append]; rfl
theorem fm_dpV {m : FM α} {k : Str} {v : α} : dpV (fmK m) ((fmV f m).map E.d) (.inr k) (.d (f v)) = (fmV f (m.put k v)).map E.d := by
  by_cases h : k ∈ m.ks
  · unfold dpV
    rw [if_pos (memK_iff.mpr (fmK_mem.mpr h)), FM.put_old h]
    unfold fmK fmV FM.ks
    clear h
    induction m with
    | nil => rfl
    | cons p m ih =>
      simp only [List.map_cons, List.zip_cons_cons]
      rw [ih]
      congr 1
      by_cases h : p.1 = k
      · simp [h]
      · have h2 : ¬ (Sum.inr p.1 : Key) = Sum.inr k := fun z => h (by cases z; rfl)
        simp only [h, h2, if_false]
  · rw [dpV_new (fun z => h (fmK_mem.mp z)), FM.put_new h]
    unfold fmV; simp
theorem FM.put_nd {m : FM α} {k : Str} {v : α} (h : m.ks.Nodup) : (m.put k v).ks.Nodup := by
  rw [FM.ks_put]
  split
  · exact h
  · rename_i hk
    rw [List.nodup_append]
    exact ⟨h, by simp, fun a ha b hb e => by
      have : b = k := by simpa using hb
      subst this; subst e; exact hk ha⟩
theorem FM.put_len {m : FM α} {k : Str} {v : α} : (m.put k v).length ≤ m.length + 1 := by
  unfold FM.put
  split <;> simp
theorem FM.get_mem {m : FM α} {k : Str} {v : α} (h : m.get k = some v) : (k, v) ∈ m := by
  unfold FM.get at h
  cases q : m.find? fun p => decide (p.1 = k) with
  | none => rw [q] at h; cases h
  | some p =>
    rw [q] at h
    cases h
    have h1 := List.mem_of_find?_eq_some q
    have h2 : p.1 = k := by have := List.find?_some q; simpa using this
    rw [← h2]; exact h1
theorem FM.get_in {m : FM α} {k : Str} : (m.get k).isSome = true ↔ k ∈ m.ks := by
  unfold FM.get FM.ks
  induction m with
  | nil => simp
  | cons p m ih =>
    by_cases h : p.1 = k
    · rw [List.find?_cons_of_pos (by simp [h])]; simp [h]
    · rw [List.find?_cons_of_neg (by simp [h]), List.map_cons, List.mem_cons, ih]
      constructor
      · intro z; exact .inr z
      · intro z; exact z.resolve_left fun q => h q.symm
theorem FM.get_at {m : FM α} {i : Nat} {p : Str × α} (nd : m.ks.Nodup) (h : m[i]? = some p) : m.get p.1 = some p.2 := by
  unfold FM.get
  induction m generalizing i with
  | nil => simp at h
  | cons q m ih =>
    cases i with
    | zero => simp at h; subst h; rw [List.find?_cons_of_pos (by simp)]; rfl
    | succ i =>
      simp at h
      have hn : q.1 ≠ p.1 := fun z => (List.nodup_cons.mp nd).1 (by show q.1 ∈ _; rw [z]; exact List.mem_map_of_mem (List.mem_of_getElem? h))
      rw [List.find?_cons_of_neg (by simp [hn])]
      exact ih (List.nodup_cons.mp nd).2 h
/-- every value bears Pr -/
def FM.All (Pr : α → Prop) (m : FM α) : Prop := ∀ p ∈ m, Pr p.2
theorem FM.All.put {Pr : α → Prop} {m : FM α} (h : m.All Pr) {k : Str} {v : α} (hv : Pr v) : (m.put k v).All Pr := by
  intro p hp
  unfold FM.put at hp
  split at hp
  · obtain ⟨q, h1, rfl⟩ := List.mem_map.mp hp
    split
    · exact hv
    · exact h q h1
  · rcases List.mem_append.mp hp with hp | hp
    · exact h p hp
    · have : p = (k, v) := by simpa using hp
      subst this; exact hv
theorem FM.All.get {Pr : α → Prop} {m : FM α} (h : m.All Pr) {k : Str} {v : α} (hg : m.get k = some v) : Pr v := h _ (FM.get_mem hg)
theorem FM.All.mono {Pr Qr : α → Prop} {m : FM α} (h : m.All Pr) (i : ∀ x, Pr x → Qr x) : m.All Qr := fun p hp => i _ (h p hp)
theorem fm_key {m : FM α} {i : Nat} {d : D} (h : ((fmK m).map kD)[i]? = some d) : ∃ p, m[i]? = some p ∧ d = .str p.1 := by
  unfold fmK FM.ks at h
  rw [List.getElem?_map, List.getElem?_map, List.getElem?_map] at h
  cases e : m[i]? with
  | none => rw [e] at h; cases h
  | some p => rw [e] at h; cases h; exact ⟨p, rfl, rfl⟩
theorem strs_ks (m : FM α) : fmK m = (m.ks).map Sum.inr := rfl
end DL
namespace DL
open PySem PySem.Spec PyProof.Rows L2
variable {X : Cx} {F : Fr} {s : S}
section
variable {elt iter kx vx c0 : Expr} {scope : Scope} {own : List (Str × Nat)} {pos p : Pos} {x : Str} {j B : Nat} {Φ : E → S → Prop}
/-- {k: v for x in iter if c}, pure: the dict, owned -/
theorem je_dcTO (bx : Bx X B) (ok : BlkOk X.N X.env.scope scope own) (hj : j ∈ own.map (·.2)) (hn : ∀ Y, IsBlk X scope Y → NmW Y j x)
    (h : DcT X F (.Name x p) iter c0 kx vx scope (own.map (·.2)) j s fun ks ds => Φ (.r s.ce.length) (s.push (.dct ks) (ds.map .d)))
    (hs : ∀ x, foldedSetIterable iter X.env x = pure x := by intro _; rfl) : JE X F (.DictComp kx vx [⟨.Name x p, iter, [c0], 0⟩] scope pos) s Φ := fun as G H σ Q c k =>
  sem_lock (PE.sem (pe_dc bx.calm bx.nd (pi_sem X _ iter) ok (pg_B hn) pts_B pe_B pe_B hs) (dcT_read hj h as G H σ _ c fun D as' G' H' vs ks ds c' x' hd gD nD h0 rs l nd q =>
    ⟨D, _, hd, trivial, fun od => by
      have c2 := (lay_dct (ks := ks) (vs := vs) (od := od) c' gD nD h0).grow (kd := .dct ks) gD nD h0 ⟨l, nd, od, upd_same⟩ (VEs.ofReps rs)
      exact k _ _ _ _ (.r s.ce.length) _ c2 (x'.trans ⟨pre_snoc, Same.refl _⟩) ⟨D, by rw [← c'.len, List.getElem?_append_right (Nat.le_refl _)]; simp, rfl⟩ q⟩))
end
theorem filter_getD {α β : Type} (g : α → Bool) (h : α → β) (d : α) (ys : List α) : ((List.range ys.length).filter fun i => g (ys.getD i d)).map (fun i => h (ys.getD i d)) = (ys.filter g).map h := by
  have e : ys = (List.range ys.length).map fun i => ys.getD i d := by
    have := range_getD (fun y : α => y) d ys
    rw [List.map_id'] at this
    exact this.symm
  conv => rhs; rw [e, List.filter_map, List.map_map]
  rfl
theorem dcT_getD {α : Type} {kf : α → Key} {f : α → D} {g : α → Bool} {d : α} {ys : List α} (h : (ys.map kf).Nodup) : dcT (fun i => kf (ys.getD i d)) (fun i => f (ys.getD i d)) (fun i => g (ys.getD i d)) ys.length = ((ys.filter g).map kf, (ys.filter g).map f) := by
  rw [dcT_inj]
  · rw [filter_getD, filter_getD]
  intro i j hij hj e
  have hi : i < ys.length := by omega
  have h1 : (ys.map kf)[i]? = some (kf (ys.getD i d)) := by rw [List.getElem?_map, List.getElem?_eq_getElem hi]; simp [List.getD, List.getElem?_eq_getElem hi]
  have h2 : (ys.map kf)[j]? = some (kf (ys.getD j d)) := by rw [List.getElem?_map, List.getElem?_eq_getElem hj]; simp [List.getD, List.getElem?_eq_getElem hj]
  have e : kf (ys.getD i d) = kf (ys.getD j d) := e
  rw [e] at h1
  have := nodup_get h h1 h2
  omega
end DL
namespace DL
open PySem PySem.Spec PyProof.Rows L2
variable {X : Cx} {F : Fr} {s : S}
/-! ### reading owned things as if frozen, while one expression makes a new list -/
def S.viewSl (s : S) : List (Option E) := s.sl.map fun o => match o with
  | none => none
  | some e => (s.view e).map E.d
theorem je_borrow {e : Expr} {Φ : E → S → Prop} (h : ∀ F', JE X F' e ⟨s.viewSl, [], 0⟩ fun e1 s1 => ∃ ds, e1 = .r 0 ∧ s1 = ⟨s.viewSl, [.nd .lst (ds.map .d)], 0⟩ ∧ D.imms ds = true ∧ Φ (.r s.ce.length) (s.push .lst (ds.map .d))) : JE X F e s Φ := fun as G H σ Q c k => by
  have c0 : Cz X ⟨lend s as G H, H, []⟩ [] (lend s as G H) H σ ⟨s.viewSl, [], 0⟩ := by
    refine ⟨lend_in c.sub, Same.refl _, fun _ h _ => h, fun _ _ h _ => h, rfl, List.prefix_refl _, List.nodup_nil, fun k a kd es h => by simp at h, fun a h => by simp at h, fun a h => by simp at h, fun k kd es h => ?_, fun i e he => ?_, ?_, rfl⟩
    · have h : ([] : List Cell)[k]? = some (.nd kd es) := h
      simp at h
    · have he : (s.viewSl)[i]? = some (some e) := he
      unfold S.viewSl at he
      rw [List.getElem?_map] at he
      cases q : s.sl[i]? with
      | none => rw [q] at he; cases he
      | some o =>
        rw [q] at he
        cases o with
        | none => cases he
        | some e0 =>
          have he : (s.view e0).map E.d = some e := Option.some.inj he
          cases q2 : s.view e0 with
          | none => rw [q2] at he; cases he
          | some d =>
            rw [q2] at he
            cases he
            obtain ⟨v, w1, w2⟩ := c.slots i e0 q
            exact ⟨v, w1, c.view w2 q2⟩
    · show s.viewSl.length = _
      unfold S.viewSl
      rw [List.length_map]; exact c.slen
  refine h _ [] _ H σ _ c0 fun v as' G' H' e1 s1 c' x ve ⟨ds, q1, q2, hi, q⟩ => ?_
  subst q1 q2
  obtain ⟨a, ha, rfl⟩ := ve
  obtain ⟨a', vs, g1, g2, g3⟩ := c'.cells 0 .lst (ds.map .d) rfl
  rw [ha] at g1
  cases g1
  have hG' : G' a = none := c'.own 0 a .lst _ ha rfl
  have hH : H a = none := (c'.fresh a (List.mem_of_getElem? ha)).resolve_left (by simp)
  have h1 : Same H H' := fun b o z => c'.frame b o z (by simp)
  have h2 : Same (lend s as G H) G' := c'.base
  -- what is frozen behind
  obtain ⟨G2, hG2, hG3⟩ : ∃ G2 : Hp, (∀ b, Alive s as b → G2 b = none) ∧ ∀ b, ¬ Alive s as b → G2 b = G' b := by
    classical
    exact ⟨fun b => if Alive s as b then none else G' b, fun b h => if_pos h, fun b h => if_neg h⟩
  have ga : ∀ {b : Addr}, Alive s as b → G b = none := fun {b} ⟨k, kd, es, w1, w2⟩ => c.own k b _ _ w1 w2
  have s1' : Same G G2 := fun b o q => by
    rw [hG3 b (fun z => by rw [ga z] at q; cases q)]
    exact h2 b o (lend_sub b o q)
  have s2' : Same G2 H' := fun b o q => by
    by_cases hb : Alive s as b
    · rw [hG2 b hb] at q; cases q
    · rw [hG3 b hb] at q; exact c'.sub b o q
  have s4' : ∀ b, G b = none → H b ≠ none → G2 b = none := fun b w1 w2 => by
    by_cases hb : Alive s as b
    · exact hG2 b hb
    · rw [hG3 b hb]
      exact c'.new b (lend_no w1 hb) w2
  have c2 := c.call h1 s1' s2' s4'
  have tups : ∀ a vs, Rd G' a (.tup vs) → Rd G2 a (.tup vs) := fun b ws hb => by
    have nb : ¬ Alive s as b := fun z => by
      have w0 := ga z
      obtain ⟨j, kd, es, hj, hcl⟩ := z
      obtain ⟨b', us, g1, g2, g3⟩ := c.cells j _ _ hcl
      rw [hj] at g1
      cases g1
      obtain ⟨o, ho⟩ := g2.some
      have hG' : G' b = some o := h2 b o (by rw [lend_yes w0 ⟨j, kd, es, hj, hcl⟩]; exact ho)
      have g2' : CellAt G' b us kd := g2.keep fun u q => by rw [ho] at q; cases q; exact hG'
      rcases hb with hb | ⟨oo, hb⟩
      · cases kd with
        | tup => exact g2'
        | lst => have : G' b = some (.lst us) := g2'; rw [hb] at this; cases this
        | dct ks => obtain ⟨_, _, _, this⟩ := g2'; rw [hb] at this; cases this
        | ins C fs => obtain ⟨_, _, this⟩ := g2'; rw [hb] at this; cases this
      · cases kd with
        | tup => exact g2'
        | lst => have : G' b = some (.lst us) := g2'; rw [hb] at this; cases this
        | dct ks => obtain ⟨_, _, _, this⟩ := g2'; rw [hb] at this; cases this
        | ins C fs => obtain ⟨_, _, this⟩ := g2'; rw [hb] at this; cases this
    rcases hb with hb | ⟨oo, hb⟩
    · exact .inl (by rw [hG3 b nb]; exact hb)
    · exact .inr ⟨oo, by rw [hG3 b nb]; exact hb⟩
  have gb : G2 a = none := by
    by_cases hb : Alive s as a
    · exact hG2 a hb
    · rw [hG3 a hb]; exact hG'
  have c3 := c2.grow (kd := .lst) (es := ds.map .d) gb (c.notin hH) (c.h0none hH) g2 (VEs.ofReps (imm_keeps tups _ _ g3.reps hi))
  exact k _ _ G2 H' (.r s.ce.length) _ c3 ⟨pre_snoc, s1'⟩ ⟨a, by rw [← c.len, List.getElem?_append_right (Nat.le_refl _)]; simp, rfl⟩ q
end DL
namespace DL
open PySem PySem.Spec PyProof.Rows L2
/-- a pair of whole numbers laid in the module -/
theorem XIs.gcQ {P : Program} {w : World} {K : PySem.W.Frag} {mg : Str → Option Value} {base : Heap} {N : List Str} {sc : Scope} {k : Nat} {x : Str} {a : Addr} {od : Option Addr} {sl : Array (Option Value)} {i j : Int} {t1 t2 : Tok} {n : Nat} (hm : mg x = some (.ref a)) (hl : K.lookup a = some ⟨.type "tuple", od, .seq #[.int i t1, .int j t2] n, sl⟩)
    (hd : (x == ("__debug__" : Str)) = false) {X : Cx} (hX : XIs X P w K mg base N sc k) (h : sc.names.lookup x = some .globalImplicit) : Gc X x (.nd .tup [.int i, .int j]) :=
  ⟨hX.gl h, ⟨.ref a, .ref a, by rw [hX.eM]; exact hm, rfl, .nd (k := .tup) (vs := [.int i, .int j]) (by
    rw [hX.eK]
    exact .inr ⟨_, _, n, hl, rfl, rfl, by rw [sizeLine_eq]; show 2 ≤ 16777216; decide, .cons ⟨t1, rfl⟩ (.cons ⟨t2, rfl⟩ .nil)⟩) (.cons (.int i) (.cons (.int j) .nil))⟩, hd⟩
end DL
namespace DL
open PySem PySem.Spec PyProof.Rows L2
section
variable {X : Cx} {F : Fr} {s : S} {tg iter : Expr} {body sts : List Stmt} {pos : Pos} {P : Po}
/-- a loop whose invariant is told after what it walks -/
theorem js_forE {B : Nat} (bx : Bx X B) (h : JI X F tg iter s fun n it s1 => ∃ In : Nat → S → Prop, In 0 s1 ∧ (∀ i v s', i < n → it i v → In i s' → Turn1 X F tg body P (In (i + 1)) v s') ∧ ∀ s', In n s' → P.nx s')
    (hs : ∀ x, foldedSetIterable iter X.env x = pure x := by intro _; rfl) : JS X F (.For tg iter body [] pos) s P := fun as G H σ D c k =>
  PS.sem (ps_for bx.po bx.calm (pi_sem X tg iter) (pg_sem X tg) (pss_sem X body) hs) (h as G H σ _ c fun J as1 G1 H1 s1 n it c1 x1 ok ⟨In, h0, ht, hd⟩ => by
    refine for_any (fun i σ' H' => ∃ as' G' s', Cz X F as' G' H' σ' s' ∧ Same G1 G' ∧ In i s') ⟨as1, G1, s1, c1, Same.refl _, h0⟩ (fun σ' H' ⟨as', G', s', c', x', _⟩ => ok.stop as' G' H' σ' s' c' x') (fun i σ' H' hi ⟨as', G', s', c', x', _⟩ => ok.go i as' G' H' σ' s' hi c' x')
      (fun i σ' H' hi ⟨as', G', s', c', x', q⟩ v H2 y => ?_) fun σ' H' ⟨as', G', s', c', x', q⟩ => k.nx as' G' H' σ' s' c' (x1.sub.trans x') (hd s' q)
    obtain ⟨G2, e, c2, ⟨x2, _⟩, ve, hv⟩ := ok.yld i as' G' H' σ' s' v H2 hi c' x' y
    have x3 : Same G1 G2 := x'.trans x2
    refine ht i e s' hi hv q as' G2 H2 σ' v _ c2 ve fun as3 G3 H3 σ3 s3 c3 x4 q3 => ?_
    refine q3 as3 G3 H3 σ3 _ c3 ⟨fun as5 G5 H5 σ5 s5 c5 x5 t => ⟨as5, G5, s5, c5, (x3.trans x4.sub).trans x5, t⟩, fun v as5 G5 H5 σ5 e5 s5 c5 x5 ve t => k.rt v as5 G5 H5 σ5 e5 s5 c5 (x1.sub.trans ((x3.trans x4.sub).trans x5)) ve t, fun as5 G5 H5 σ5 s5 c5 x5 t => k.nx as5 G5 H5 σ5 s5 c5 (x1.sub.trans ((x3.trans x4.sub).trans x5)) t,
      fun as5 G5 H5 σ5 s5 c5 x5 t => ⟨as5, G5, s5, c5, (x3.trans x4.sub).trans x5, t⟩⟩)
theorem jss_forE {B : Nat} (bx : Bx X B) (h : JI X F tg iter s fun n it s1 => ∃ In : Nat → S → Prop, In 0 s1 ∧ (∀ i v s', i < n → it i v → In i s' → JG X F tg v s' fun s2 => JSs X F body s2 { nx := In (i + 1), ct := In (i + 1), bk := fun s3 => JSs X F sts s3 P, rt := P.rt }) ∧ ∀ s', In n s' → JSs X F sts s' P)
    (hs : ∀ x, foldedSetIterable iter X.env x = pure x := by intro _; rfl) : JSs X F (.For tg iter body [] pos :: sts) s P := jss_cons (js_forE bx h hs)
end
end DL
namespace W
open PySem PySem.Spec PyProof.Rows L2 DL
def top (i : Nat) : Stmt := PySem.Challenge.pw_networth_k70_payment_of_rights.main.body.getD i (.Pass ⟨0, 0, 0, 0⟩)
abbrev s_ratio : Stmt := top 3
def N_ratio : List Str := ["p", "q", "shared"]
theorem sc_ratio : FnScope N_ratio ["p", "q"] (defScope s_ratio) := ⟨rfl, rfl, rfl, by decide +kernel, rfl, by decide +kernel, by decide +kernel⟩
abbrev s_added : Stmt := top 4
def N_added : List Str := ["one", "other"]
theorem sc_added : FnScope N_added ["one", "other"] (defScope s_added) := ⟨rfl, rfl, rfl, by decide +kernel, rfl, by decide +kernel, by decide +kernel⟩
abbrev s_less : Stmt := top 5
def N_less : List Str := ["one", "other"]
theorem sc_less : FnScope N_less ["one", "other"] (defScope s_less) := ⟨rfl, rfl, rfl, by decide +kernel, rfl, by decide +kernel, by decide +kernel⟩
abbrev s_times : Stmt := top 6
def N_times : List Str := ["one", "other"]
theorem sc_times : FnScope N_times ["one", "other"] (defScope s_times) := ⟨rfl, rfl, rfl, by decide +kernel, rfl, by decide +kernel, by decide +kernel⟩
abbrev s_over : Stmt := top 7
def N_over : List Str := ["one", "other"]
theorem sc_over : FnScope N_over ["one", "other"] (defScope s_over) := ⟨rfl, rfl, rfl, by decide +kernel, rfl, by decide +kernel, by decide +kernel⟩
abbrev s_sign : Stmt := top 8
def N_sign : List Str := ["one"]
theorem sc_sign : FnScope N_sign ["one"] (defScope s_sign) := ⟨rfl, rfl, rfl, by decide +kernel, rfl, by decide +kernel, by decide +kernel⟩
abbrev s_below : Stmt := top 9
def N_below : List Str := ["one", "other"]
theorem sc_below : FnScope N_below ["one", "other"] (defScope s_below) := ⟨rfl, rfl, rfl, by decide +kernel, rfl, by decide +kernel, by decide +kernel⟩
abbrev s_dues : Stmt := top 11
def N_dues : List Str := ["rights", "prices", "found", "name", "_", "source", "sink", "amount"]
theorem sc_dues : FnScope N_dues ["rights", "prices"] (defScope s_dues) := ⟨rfl, rfl, rfl, by decide +kernel, rfl, by decide +kernel, by decide +kernel⟩
abbrev s_paid : Stmt := top 13
def N_paid : List Str := ["rights", "prices", "rent", "found", "fund", "wanted", "name", "part", "payments"]
theorem sc_paid : FnScope N_paid ["rights", "prices", "rent"] (defScope s_paid) := ⟨rfl, rfl, rfl, by decide +kernel, rfl, by decide +kernel, by decide +kernel⟩
abbrev s_law_mixed : Stmt := top 15
def N_law_mixed : List Str := ["number", "place", "first", "second", "third"]
theorem sc_law_mixed : FnScope N_law_mixed ["number", "place"] (defScope s_law_mixed) := ⟨rfl, rfl, rfl, by decide +kernel, rfl, by decide +kernel, by decide +kernel⟩
abbrev s_law_rest : Stmt := top 16
def N_law_rest : List Str := ["script", "place", "fills", "number"]
theorem sc_law_rest : FnScope N_law_rest ["script", "place", "fills"] (defScope s_law_rest) := ⟨rfl, rfl, rfl, by decide +kernel, rfl, by decide +kernel, by decide +kernel⟩
abbrev s_law_pool : Stmt := top 17
def N_law_pool : List Str := ["script"]
theorem sc_law_pool : FnScope N_law_pool ["script"] (defScope s_law_pool) := ⟨rfl, rfl, rfl, by decide +kernel, rfl, by decide +kernel, by decide +kernel⟩
abbrev s_law_next : Stmt := top 18
def N_law_next : List Str := ["pool"]
theorem sc_law_next : FnScope N_law_next ["pool"] (defScope s_law_next) := ⟨rfl, rfl, rfl, by decide +kernel, rfl, by decide +kernel, by decide +kernel⟩
abbrev s_law_draw : Stmt := top 19
def N_law_draw : List Str := ["pool", "limit", "value"]
theorem sc_law_draw : FnScope N_law_draw ["pool", "limit"] (defScope s_law_draw) := ⟨rfl, rfl, rfl, by decide +kernel, rfl, by decide +kernel, by decide +kernel⟩
abbrev s_law_pick : Stmt := top 20
def N_law_pick : List Str := ["pool", "options"]
theorem sc_law_pick : FnScope N_law_pick ["pool", "options"] (defScope s_law_pick) := ⟨rfl, rfl, rfl, by decide +kernel, rfl, by decide +kernel, by decide +kernel⟩
abbrev s_law_same : Stmt := top 21
def N_law_same : List Str := ["answer", "due", "key", "k"]
theorem sc_law_same : FnScope N_law_same ["answer", "due"] (defScope s_law_same) := ⟨rfl, rfl, rfl, by decide +kernel, rfl, by decide +kernel, by decide +kernel⟩
abbrev s_law_gcd : Stmt := top 22
def N_law_gcd : List Str := ["one", "other", "k"]
theorem sc_law_gcd : FnScope N_law_gcd ["one", "other"] (defScope s_law_gcd) := ⟨rfl, rfl, rfl, by decide +kernel, rfl, by decide +kernel, by decide +kernel⟩
abbrev s_law_ratio : Stmt := top 23
def N_law_ratio : List Str := ["p", "q", "shared"]
theorem sc_law_ratio : FnScope N_law_ratio ["p", "q"] (defScope s_law_ratio) := ⟨rfl, rfl, rfl, by decide +kernel, rfl, by decide +kernel, by decide +kernel⟩
abbrev s_law_add : Stmt := top 24
def N_law_add : List Str := ["one", "other"]
theorem sc_law_add : FnScope N_law_add ["one", "other"] (defScope s_law_add) := ⟨rfl, rfl, rfl, by decide +kernel, rfl, by decide +kernel, by decide +kernel⟩
abbrev s_law_sub : Stmt := top 25
def N_law_sub : List Str := ["one", "other"]
theorem sc_law_sub : FnScope N_law_sub ["one", "other"] (defScope s_law_sub) := ⟨rfl, rfl, rfl, by decide +kernel, rfl, by decide +kernel, by decide +kernel⟩
abbrev s_law_mul : Stmt := top 26
def N_law_mul : List Str := ["one", "other"]
theorem sc_law_mul : FnScope N_law_mul ["one", "other"] (defScope s_law_mul) := ⟨rfl, rfl, rfl, by decide +kernel, rfl, by decide +kernel, by decide +kernel⟩
abbrev s_law_div : Stmt := top 27
def N_law_div : List Str := ["one", "other"]
theorem sc_law_div : FnScope N_law_div ["one", "other"] (defScope s_law_div) := ⟨rfl, rfl, rfl, by decide +kernel, rfl, by decide +kernel, by decide +kernel⟩
abbrev s_law_name : Stmt := top 28
def N_law_name : List Str := ["pool", "way", "letters", "size", "place"]
theorem sc_law_name : FnScope N_law_name ["pool"] (defScope s_law_name) := ⟨rfl, rfl, rfl, by decide +kernel, rfl, by decide +kernel, by decide +kernel⟩
abbrev s_law_fresh : Stmt := top 29
def N_law_fresh : List Str := ["pool", "taken", "name", "k"]
theorem sc_law_fresh : FnScope N_law_fresh ["pool", "taken"] (defScope s_law_fresh) := ⟨rfl, rfl, rfl, by decide +kernel, rfl, by decide +kernel, by decide +kernel⟩
abbrev s_law_places : Stmt := top 30
def N_law_places : List Str := ["pool", "many", "places", "k"]
theorem sc_law_places : FnScope N_law_places ["pool", "many"] (defScope s_law_places) := ⟨rfl, rfl, rfl, by decide +kernel, rfl, by decide +kernel, by decide +kernel⟩
abbrev s_law_price : Stmt := top 31
def N_law_price : List Str := ["pool", "way"]
theorem sc_law_price : FnScope N_law_price ["pool"] (defScope s_law_price) := ⟨rfl, rfl, rfl, by decide +kernel, rfl, by decide +kernel, by decide +kernel⟩
abbrev s_law_rights : Stmt := top 32
def N_law_rights : List Str := ["pool", "places", "most", "rights", "k", "name", "amount", "right"]
theorem sc_law_rights : FnScope N_law_rights ["pool", "places", "most"] (defScope s_law_rights) := ⟨rfl, rfl, rfl, by decide +kernel, rfl, by decide +kernel, by decide +kernel⟩
abbrev s_law_owed : Stmt := top 33
def N_law_owed : List Str := ["rights", "prices", "found", "name", "holder", "source", "sink", "amount"]
theorem sc_law_owed : FnScope N_law_owed ["rights", "prices"] (defScope s_law_owed) := ⟨rfl, rfl, rfl, by decide +kernel, rfl, by decide +kernel, by decide +kernel⟩
abbrev s_law_due : Stmt := top 34
def N_law_due : List Str := ["rights", "prices", "rent", "dues_v", "fund", "wanted", "name", "holder", "source", "sink", "amount"]
theorem sc_law_due : FnScope N_law_due ["rights", "prices", "rent"] (defScope s_law_due) := ⟨rfl, rfl, rfl, by decide +kernel, rfl, by decide +kernel, by decide +kernel⟩
abbrev s_law_rent_drawn : Stmt := top 35
def N_law_rent_drawn : List Str := ["pool", "rights", "prices", "short", "way", "found"]
theorem sc_law_rent_drawn : FnScope N_law_rent_drawn ["pool", "rights", "prices"] (defScope s_law_rent_drawn) := ⟨rfl, rfl, rfl, by decide +kernel, rfl, by decide +kernel, by decide +kernel⟩
abbrev s_law : Stmt := top 36
def N_law : List Str := ["script", "pool", "places", "rights", "turn", "prices", "place", "rent", "passed", "told", "found", "name"]
theorem sc_law : FnScope N_law ["script"] (defScope s_law) := ⟨rfl, rfl, rfl, by decide +kernel, rfl, by decide +kernel, by decide +kernel⟩
local macro_rules | `(tactic| walk_at "pd") => `(tactic| ((with_reducible refine' je_callPd ?zn ?zb ?zk ?_ ?z1 ?z2 ?z3); (case zn => with_reducible assumption); (case zb => with_reducible assumption); (case zk => first | exact Nat.le_refl _ | decide); (case z1 => decide); (case z2 => rfl); (case z3 => rfl)))
local macro_rules | `(tactic| walk_at "vw") => `(tactic| first
  | (with_reducible refine' vk_nil ?_)
  | (with_reducible refine' vk_d ?_)
  | ((with_reducible refine' vk_l ?z1 ?z2 ?_); (case z1 => rfl); (first | (case z2 => exact dsOf_map _) | (case z2 => rfl) | rotate_left))
  | ((with_reducible refine' vk_k ?z1 ?z2 ?_); (case z1 => rfl); (first | (case z2 => exact dsOf_map _) | (case z2 => rfl) | rotate_left)))
local macro_rules | `(tactic| walk_at "cb") => `(tactic| ((with_reducible refine' je_callB ?zn ?zb ?zk ?_ ?z1 ?z2 ?z3); (case zn => with_reducible assumption); (case zb => with_reducible assumption); (case zk => first | exact Nat.le_refl _ | decide); (case z1 => decide); (case z2 => rfl); (case z3 => rfl)))
local macro_rules | `(tactic| walk_at "bd") => `(tactic| first | omega | decide | (constructor <;> omega) | (left; constructor <;> omega) | (right; constructor <;> omega))
local macro_rules | `(tactic| walk_at "je") => `(tactic| first
  | ((with_reducible refine' je_name ?zn ?zh ?zq); (case zn => with_reducible assumption); (case zh => rfl))
  | (with_reducible refine' je_int ?_)
  | (with_reducible refine' je_str ?_)
  | (with_reducible refine' je_bin ?_)
  | ((with_reducible refine' je_sub ?_ ?zs); (case zs => intro _ _; rfl))
  | (with_reducible refine' je_sliceS ?_)
  | ((with_reducible refine' je_cmp ?_ ?zs); (case zs => rfl))
  | ((with_reducible refine' je_get2 ?zb ?_ ?zm); (case zb => with_reducible assumption); (case zm => exact ⟨rfl, rfl, rfl, rfl⟩))
  | ((with_reducible refine' je_gcd ?zg ?_ ?z1 ?z2 ?z3); (case zg => with_reducible assumption); (case z1 => decide); (case z2 => intro _ _; rfl); (case z3 => intro _ _; rfl))
  | ((with_reducible refine' je_listD ?zg ?_ ?zs); (case zg => with_reducible assumption); (case zs => intro _ _; rfl))
  | ((with_reducible refine' je_dictD ?zg ?_ ?zs); (case zg => with_reducible assumption); (case zs => intro _ _; rfl))
  | ((with_reducible refine' je_callNK ?zn ?zb ?zk ?zm ?_ ?z1 ?z2 ?z3); (case zn => with_reducible assumption); (case zb => with_reducible assumption); (case zk => first | exact Nat.le_refl _ | decide); (case zm => assumption); (case z1 => decide); (case z2 => rfl); (case z3 => rfl))
  | (with_reducible refine' je_tup ?_)
  | (with_reducible refine' je_lst ?_)
  | ((with_reducible refine' je_len ?zg ?_ ?zs); (case zg => with_reducible assumption); (case zs => intro _ _; rfl))
  | ((with_reducible refine' je_intc ?zg ?_ ?zs); (case zg => with_reducible assumption); (case zs => intro _ _; rfl))
  | ((with_reducible refine' je_abs ?zg ?_ ?zs); (case zg => with_reducible assumption); (case zs => intro _ _; rfl))
  | ((with_reducible refine' je_stri ?zg ?_ ?zs); (case zg => with_reducible assumption); (case zs => intro _ _; rfl))
  | (with_reducible refine' je_bl ?_)
  | ((with_reducible refine' je_isi ?zg ?zt ?zv ?_ ?z1 ?z2 ?z3); (case zg => with_reducible assumption); (case zt => with_reducible assumption); (case zv => first | exact PyProof.Rows.boot_dict | exact PyProof.Rows.boot_list | exact PyProof.Rows.boot_tuple | exact PyProof.Rows.boot_str | exact PyProof.Rows.boot_int | exact PyProof.Rows.boot_bool); (case z1 => decide); (case z2 => decide); (case z3 => intro _ _; rfl))
  | (with_reducible refine' je_non ?_)
  | ((with_reducible refine' je_glob ?zn ?zq); (case zn => with_reducible assumption))
  | ((with_reducible refine' je_chain ?_ ?zs); (case zs => with_unfolding_all rfl))
  | (with_reducible refine' je_not ?_)
  | (with_reducible refine' je_un ?_)
  | (with_reducible refine' je_one ?_)
  | (with_reducible refine' je_and ?_)
  | (with_reducible refine' je_or ?_)
  | (with_reducible refine' je_ife ?_)
  | ((with_reducible refine' je_callX ?zn ?zb ?zk ?_ ?z1 ?z2 ?z3); (case zn => with_reducible assumption); (case zb => with_reducible assumption); (case zk => first | exact Nat.le_refl _ | decide); (case z1 => decide); (case z2 => rfl); (case z3 => rfl))
  | ((with_reducible refine' je_callC ?zn ?zb ?zk ?_ ?z1 ?z2 ?z3); (case zn => with_reducible assumption); (case zb => with_reducible assumption); (case zk => first | exact Nat.le_refl _ | decide); (case z1 => decide); (case z2 => rfl); (case z3 => rfl)))
local macro_rules | `(tactic| walk_at "jr") => `(tactic| first
  | (with_reducible refine' jr_add ?_)
  | (with_reducible refine' jr_sub ?_)
  | ((with_reducible refine' jr_mod ?zc ?_); (first | (case zc => assumption) | (case zc => omega) | (case zc => assumption) | rotate_left))
  | ((with_reducible refine' jr_mulS ?z1 ?z2 ?_); (first | (case z1 => decide) | rotate_left); (first | (case z2 => constructor <;> omega) | rotate_left))
  | ((with_reducible refine' jr_mul ?zc ?_); (first | (case zc => assumption) | (case zc => left; first | (left; omega) | (right; omega)) | (case zc => right; exact wide_mul (a := 128) (b := 128) (by omega) (by omega) (by decide) (by decide) (by decide)) | rotate_left))
  | ((with_reducible refine' jr_fdiv ?zc ?_); (first | (case zc => assumption) | (case zc => left; constructor <;> omega) | rotate_left))
  | ((with_reducible refine' jr_pow ?zc ?_); (case zc => exact ⟨by decide, by decide, by decide⟩))
  | (with_reducible refine' jr_lt ?_)
  | (with_reducible refine' jr_le ?_)
  | (with_reducible refine' jr_gt ?_)
  | (with_reducible refine' jr_ge ?_)
  | ((with_reducible refine' jr_eqQ ?zb ?_); (case zb => with_reducible assumption))
  | ((with_reducible refine' jr_neQ ?zb ?_); (case zb => with_reducible assumption))
  | ((with_reducible refine' jr_inStrs ?zh ?zk ?_); (case zh => rfl); (case zk => first | exact Or.inl rfl | exact Or.inr rfl))
  | ((with_reducible refine' jr_ninStrs ?zh ?zk ?_); (case zh => rfl); (case zk => first | exact Or.inl rfl | exact Or.inr rfl))
  | (with_reducible refine' jr_eqiS ?_)
  | (with_reducible refine' jr_eqsS ?_)
  | (with_reducible refine' jr_eqbS ?_)
  | (with_reducible refine' jr_nebS ?_)
  | (with_reducible refine' jr_eqi ?_)
  | (with_reducible refine' jr_nei ?_)
  | (with_reducible refine' jr_eqs ?_)
  | (with_reducible refine' jr_nes ?_)
  | (with_reducible refine' jr_eqb ?_)
  | (with_reducible refine' jr_neb ?_)
  | ((with_reducible refine' jr_isNF ?zh ?_); (case zh => rfl))
  | ((with_reducible refine' jr_isNT ?zh ?_); (case zh => rfl))
  | ((with_reducible refine' jr_notNF ?zh ?_); (case zh => rfl))
  | ((with_reducible refine' jr_notNT ?zh ?_); (case zh => rfl))
  | ((with_reducible refine' jr_isF ?zh ?_); (case zh => rfl))
  | ((with_reducible refine' jr_isT ?zh ?_); (case zh => rfl))
  | ((with_reducible refine' jr_inD ?zb ?zh ?zk ?_); (case zb => with_reducible assumption); (case zh => rfl); (first | (case zk => rfl) | (case zk => with_reducible assumption) | rotate_left))
  | ((with_reducible refine' jr_ninD ?zb ?zh ?zk ?_); (case zb => with_reducible assumption); (case zh => rfl); (first | (case zk => rfl) | (case zk => with_reducible assumption) | rotate_left))
  | ((with_reducible refine' jr_adds ?zc ?_); (first | (case zc => assumption) | rotate_left)))
local macro_rules | `(tactic| walk_at "jx") => `(tactic|
  ((with_reducible refine' jx_seq ?zh ?zk ?za ?zq); (case zh => rfl); (case zk => first | exact Or.inl rfl | exact Or.inr rfl); (case za => rfl)))
local macro_rules | `(tactic| walk_at "jv") => `(tactic| first
  | (with_reducible refine' jv_int_i ?_)
  | (with_reducible refine' jv_int_b ?_)
  | ((with_reducible refine' jv_len_str ?zh ?zq); (first | (case zh => assumption) | rotate_left))
  | ((with_reducible refine' jv_len_nd ?zh ?zk ?zq); (case zh => rfl); (case zk => intro _ _ z; cases z)))
local macro_rules | `(tactic| walk_at "jt") => `(tactic| first
  | (with_reducible refine' jt_not ?_)
  | ((with_reducible refine' jt_cmp ?_ ?zs); (case zs => rfl))
  | ((with_reducible refine' jt_chain ?_ ?zs); (case zs => with_unfolding_all rfl))
  | (with_reducible refine' jt_w (jw_and ?_))
  | (with_reducible refine' jt_w (jw_or ?_))
  | ((with_reducible refine' jt_val ?_ ?zs); (case zs => intro _; rfl)))
local macro_rules | `(tactic| walk_at "js") => `(tactic| first
  | ((with_reducible refine' jss_set ?zn ?_ ?zs); (case zn => with_reducible assumption); (case zs => rfl))
  | (with_reducible refine' jss_ret ?_)
  | (with_reducible refine' jss_ifr ?_)
  | (with_reducible refine' jss_ifbr ?_)
  | (with_reducible refine' jss_if1 ?_)
  | ((with_reducible refine' jss_ifL ?zl ?_); (case zl => rfl))
  | (with_reducible refine' jss_nilT ?_)
  | (with_reducible refine' jss_nil ?_)
  | (with_reducible refine' jss_retN ?_)
  | (with_reducible refine' jss_break ?_)
  | (with_reducible refine' jss_cont ?_)
  | (with_reducible refine' jss_doc ?_)
  | ((with_reducible refine' jss_expr ?_ ?zs); (case zs => rfl))
  | ((with_reducible refine' jss_asg ?_ ?zs ?zt ?zu); (case zs => rfl); (case zt => rfl); (case zu => rfl)))
local macro_rules | `(tactic| walk_at "jg") => `(tactic| first
  | ((with_reducible refine' jg_name ?zn ?_); (case zn => with_reducible assumption))
  | ((with_reducible refine' jg_tup ?zb ?zn ?zl ?_ ?z1 ?z2); (case zb => with_reducible assumption); (case zn => rfl); (case zl => rfl); (case z1 => rfl); (case z2 => rfl))
  | ((with_reducible refine' jg_setX ?zb ?zh ?_ ?zs); (case zb => with_reducible assumption); (case zh => with_reducible assumption); (case zs => intro _; rfl)))
local macro_rules | `(tactic| walk_at "br") => `(tactic| first
  | (with_reducible refine' L2.iteT ?_)
  | (with_reducible refine' L2.iteF ?_)
  | (with_reducible refine' ite_nT ?_)
  | (with_reducible refine' ite_nF ?_)
  | ((with_reducible refine' ite_dec ?_ ?_) <;> intro hb <;> try (exfalso; omega))
  | ((with_reducible refine' ite_ndec ?_ ?_) <;> intro hb <;> try (exfalso; omega))
  | ((with_reducible refine' ite_bool ?_ ?_) <;> intro hb)
  | ((with_reducible refine' ite_nbool ?_ ?_) <;> intro hb))
local macro_rules | `(tactic| walk_at "ja") => `(tactic| first
  | (with_reducible refine' ja_nil ?_)
  | ((with_reducible refine' ja_cons ?_ ?zs); (case zs => rfl)))
local macro_rules | `(tactic| walk_at "jw") => `(tactic| first
  | (with_reducible refine' jw_and ?_)
  | (with_reducible refine' jw_or ?_)
  | (with_reducible refine' jw_and1 ?_)
  | (with_reducible refine' jw_or1 ?_))
local macro_rules | `(tactic| walk_at "st") => `(tactic| first
  | ((with_reducible show JE _ _ _ _ _); walk_at "je")
  | ((with_reducible show JR _ _ _ _ _ _ _); walk_at "jr")
  | ((with_reducible show JX _ _ _ _ _ _); walk_at "jx")
  | ((with_reducible show JA _ _ _ _ _); walk_at "ja")
  | ((with_reducible show JSs _ _ _ _ _); walk_at "js")
  | ((with_reducible show JT _ _ _ _ _); walk_at "jt")
  | ((with_reducible show JV _ _ _ _ _ _); walk_at "jv")
  | ((with_reducible show JG _ _ _ _ _ _); walk_at "jg")
  | ((with_reducible show JGs _ _ _ _ _ _); (first | with_reducible refine' jgs_nil ?_ | ((with_reducible refine' jgs_cons ?_ ?zs); (case zs => rfl)) | refine' jgs_nil ?_ | ((refine' jgs_cons ?_ ?zs); (case zs => rfl))))
  | ((with_reducible show JW _ _ _ _ _); walk_at "jw")
  | ((with_reducible show JO _ _ _ _ _); (first | with_reducible refine' jo_none ?_ | with_reducible refine' jo_some ?_))
  | ((with_reducible show JU _ _ _ _ _ _); with_reducible refine' ju_neg ?_)
  | ((with_reducible show And (LE.le _ sizeLine) _); refine And.intro ?_ ?_)
  | ((with_reducible show LE.le _ sizeLine); with_reducible assumption)
  | ((with_reducible show And (LT.lt (Nat.log2 _) _) _); refine And.intro ?_ ?_; with_reducible assumption)
  | ((with_reducible show LE.le _ sizeLine); (rw [sizeLine_eq]); (first | (simp only [List.length_cons, List.length_nil, List.length_append, List.length_map]; omega) | (simp; done)))
  | (with_reducible refine' ⟨_, rfl, ?_⟩)
  | ((with_reducible show VwK _ _ _); walk_at "vw")
  | ((with_reducible refine' rtX_P ?_ ?zd); (case zd => rfl))
  | ((with_reducible refine' rtX_B ?zd ?_); (case zd => rfl))
  | (with_reducible refine' rtΦ_dat ?_)
  | (with_reducible refine' rtΦ_new ?_)
  | (with_reducible refine' rtE_d ?_)
  | (refine' ⟨_, _, rfl, ?zkit, ?_⟩; (case zkit => with_reducible (show kitB _ _ = some _); with_reducible first | exact kit_NoneType_dict | exact kit_NoneType_list | exact kit_NoneType_tuple | exact kit_NoneType_str | exact kit_NoneType_int | exact kit_NoneType_bool | exact kit_bool_dict | exact kit_bool_list | exact kit_bool_tuple | exact kit_bool_str | exact kit_bool_int | exact kit_bool_bool | exact kit_int_dict | exact kit_int_list | exact kit_int_tuple | exact kit_int_str | exact kit_int_int | exact kit_int_bool | exact kit_str_dict | exact kit_str_list | exact kit_str_tuple | exact kit_str_str | exact kit_str_int | exact kit_str_bool | exact kit_tuple_dict | exact kit_tuple_list | exact kit_tuple_tuple | exact kit_tuple_str | exact kit_tuple_int | exact kit_tuple_bool | exact kit_list_dict | exact kit_list_list | exact kit_list_tuple | exact kit_list_str | exact kit_list_int | exact kit_list_bool | exact kit_dict_dict | exact kit_dict_list | exact kit_dict_tuple | exact kit_dict_str | exact kit_dict_int | exact kit_dict_bool))
  | (refine' ⟨_, _, _, _, _, rfl, rfl, rfl, dsOf_map _, ?_⟩)
  | walk_at "br")
local macro_rules | `(tactic| walk_at "go") => `(tactic| repeat' walk_at "st")
abbrev lsI (ns : List Int) : D := .nd .lst (ns.map .int)
def R_mixed : RP := fun ds post => ∃ n p : Int, ds = [.int n, .int p] ∧ ∀ r : Int, 0 ≤ r → post (.dat (.int r))
def R_rest : RP := fun ds post => ∃ (ns : List Int) (n p : Int), ds = [lsI ns, .int n, .int p] ∧ ∀ r : Int, 0 ≤ r → post (.dat (.int r))
/-- a pool -/
def PoolD (cds : List D) : Prop := ∃ (ns : List Int) (i n f : Int), cds = [lsI ns, .int i, .int n, .int f] ∧ 0 ≤ n
def R_pool : RP := fun ds post => ∃ (ns : List Int), ds = [lsI ns] ∧ ∀ cds, PoolD cds → post (.new .lst cds)
def R_next : RC1 := fun kd cds ds post => kd = .lst ∧ PoolD cds ∧ ds = [] ∧ ∀ cds', PoolD cds' → post (.dat .non) .lst cds'
def Lim (m : Int) : Prop := 0 < m ∧ m.natAbs.log2 < 9000
def R_draw : RC1 := fun kd cds ds post => kd = .lst ∧ PoolD cds ∧ ∃ m : Int, ds = [.int m] ∧ Lim m ∧ ∀ (v : Int) cds', 0 ≤ v → v < m → PoolD cds' → post (.dat (.int v)) .lst cds'
def R_pick : RC1 := fun kd cds ds post => kd = .lst ∧ PoolD cds ∧ ∃ (k : Kd) (os : List D), ds = [.nd k os] ∧ (k = .lst ∨ k = .tup) ∧ 0 < os.length ∧ os.length ≤ 1000 ∧ ∀ d cds', d ∈ os → PoolD cds' → post (.dat d) .lst cds'
theorem mo_mixed : MonoP R_mixed := fun ds p q m ⟨a, b, e, h⟩ => ⟨a, b, e, fun r hr => m _ (h r hr)⟩
theorem mo_rest : MonoP R_rest := fun ds p q m ⟨a, b, c, e, h⟩ => ⟨a, b, c, e, fun r hr => m _ (h r hr)⟩
theorem mo_pool : MonoP R_pool := fun ds p q m ⟨a, e, h⟩ => ⟨a, e, fun r hr => m _ (h r hr)⟩
theorem mo_next : MonoC R_next := fun kd cds ds p q m ⟨a, b, c, h⟩ => ⟨a, b, c, fun r hr => m _ _ _ (h r hr)⟩
theorem mo_draw : MonoC R_draw := fun kd cds ds p q m ⟨a, b, c, d, e, h⟩ => ⟨a, b, c, d, e, fun v r h1 h2 h3 => m _ _ _ (h v r h1 h2 h3)⟩
theorem mo_pick : MonoC R_pick := fun kd cds ds p q m ⟨a, b, c, d, e, f, g, i, h⟩ => ⟨a, b, c, d, e, f, g, i, fun v r h1 h2 => m _ _ _ (h v r h1 h2)⟩
theorem lim_of {m : Int} (h : 0 < m) (h2 : m.natAbs < 2 ^ 1000) : Lim m := ⟨h, Nat.lt_trans (PySem.Flt.log2_lt_of (by decide) h2) (by decide)⟩
theorem ap_mixed {n p : Int} {post : Rt → Prop} (h : ∀ r : Int, 0 ≤ r → post (.dat (.int r))) : R_mixed [.int n, .int p] post := ⟨n, p, rfl, h⟩
theorem ap_rest {ns : List Int} {n p : Int} {post : Rt → Prop} (h : ∀ r : Int, 0 ≤ r → post (.dat (.int r))) : R_rest [lsI ns, .int n, .int p] post := ⟨ns, n, p, rfl, h⟩
theorem ap_pool {ns : List Int} {post : Rt → Prop} (h : ∀ cds, PoolD cds → post (.new .lst cds)) : R_pool [lsI ns] post := ⟨ns, rfl, h⟩
theorem ap_next {cds : List D} {post : Rt → Kd → List D → Prop} (hp : PoolD cds) (h : ∀ cds', PoolD cds' → post (.dat .non) .lst cds') : R_next .lst cds [] post := ⟨rfl, hp, rfl, h⟩
theorem ap_draw {cds : List D} {m : Int} {post : Rt → Kd → List D → Prop} (hp : PoolD cds) (hm : Lim m) (h : ∀ (v : Int) cds', 0 ≤ v → v < m → PoolD cds' → post (.dat (.int v)) .lst cds') : R_draw .lst cds [.int m] post := ⟨rfl, hp, m, rfl, hm, h⟩
theorem ap_pick {cds os : List D} {k : Kd} {post : Rt → Kd → List D → Prop} (hp : PoolD cds) (hk : k = .lst ∨ k = .tup) (h0 : 0 < os.length) (h1 : os.length ≤ 1000) (h : ∀ d cds', d ∈ os → PoolD cds' → post (.dat d) .lst cds') : R_pick .lst cds [.nd k os] post := ⟨rfl, hp, k, os, rfl, hk, h0, h1, h⟩
theorem atI_mod {α : Type} {xs : List α} (h : 0 < xs.length) (i : Int) : ∃ x, L2.atI xs (i % (xs.length : Int)) = some x ∧ x ∈ xs := by
  have h1 : 0 ≤ i % (xs.length : Int) := Int.emod_nonneg _ (by omega)
  have h2 : i % (xs.length : Int) < xs.length := Int.emod_lt_of_pos _ (by omega)
  obtain ⟨j, hj⟩ : ∃ j : Nat, i % (xs.length : Int) = (j : Int) := ⟨(i % (xs.length : Int)).toNat, by omega⟩
  have hl : j < xs.length := by omega
  exact ⟨xs[j], by rw [hj]; exact L2.atI_nat (List.getElem?_eq_getElem hl), List.getElem_mem hl⟩
theorem atI_in {α : Type} {xs : List α} {i : Int} (h1 : 0 ≤ i) (h2 : i < xs.length) : ∃ x, L2.atI xs i = some x ∧ x ∈ xs := by
  obtain ⟨j, hj⟩ : ∃ j : Nat, i = (j : Int) := ⟨i.toNat, by omega⟩
  have hl : j < xs.length := by omega
  exact ⟨xs[j], by rw [hj]; exact L2.atI_nat (List.getElem?_eq_getElem hl), List.getElem_mem hl⟩
/-! fractions: what the program's and the law's own functions promise -/
def R_gcd : RP := fun ds post => ∃ a b : Int, ds = [.int a, .int b] ∧ 0 ≤ a ∧ 0 ≤ b ∧ Bd 4000 a ∧ Bd 4000 b ∧ post (.dat (.int (Int.gcd a b : Nat)))
theorem ap_gcd {a b : Int} {post : Rt → Prop} (h1 : 0 ≤ a) (h2 : 0 ≤ b) (ha : Bd 4000 a) (hb : Bd 4000 b) (h : post (.dat (.int (Int.gcd a b : Nat)))) : R_gcd [.int a, .int b] post := ⟨a, b, rfl, h1, h2, ha, hb, h⟩
theorem mo_gcd : MonoP R_gcd := fun ds p q m ⟨a, b, c, d, e, f, g, h⟩ => ⟨a, b, c, d, e, f, g, m _ h⟩
structure GI (a0 b0 i a b : Nat) : Prop where
  g : Nat.gcd a b = Nat.gcd a0 b0
  ha : a < 2 ^ 4000
  hb : b < 2 ^ 4000
  z : 0 < i → b < a ∧ a * b * 2 ^ (i - 1) ≤ 2 ^ 8000
theorem GI.go {a0 b0 i a b : Nat} (h : GI a0 b0 i a b) (hb : b ≠ 0) : GI a0 b0 (i + 1) b (a % b) := by
  have hr : a % b < b := Nat.mod_lt _ (by omega)
  refine ⟨?_, h.hb, Nat.lt_trans hr h.hb, fun _ => ⟨hr, ?_⟩⟩
  · rw [← h.g, Nat.gcd_comm b, ← Nat.gcd_rec, Nat.gcd_comm]
  · rw [Nat.add_sub_cancel]
    by_cases hi : i = 0
    · subst hi
      rw [Nat.pow_zero, Nat.mul_one]
      have h1 : b * (a % b) ≤ 2 ^ 4000 * 2 ^ 4000 := Nat.mul_le_mul (Nat.le_of_lt h.hb) (Nat.le_of_lt (Nat.lt_trans hr h.hb))
      rw [← Nat.pow_add] at h1
      exact h1
    · obtain ⟨h1, h2⟩ := h.z (by omega)
      have e : 2 ^ i = 2 * 2 ^ (i - 1) := by rw [← Nat.pow_succ']; congr 1; omega
      have h3 : 2 * (a % b) ≤ a := by
        have := Nat.div_add_mod a b
        have h4 : 1 ≤ a / b := Nat.div_pos (by omega) (by omega)
        have h5 : b * 1 ≤ b * (a / b) := Nat.mul_le_mul_left b h4
        omega
      have h6 : b * (a % b) * 2 ^ i = (b * (2 * (a % b))) * 2 ^ (i - 1) := by rw [e]; simp only [Nat.mul_assoc, Nat.mul_left_comm, Nat.mul_comm]
      rw [h6]
      refine Nat.le_trans (Nat.mul_le_mul_right _ (Nat.mul_le_mul_left b h3)) ?_
      rw [Nat.mul_comm b a]
      exact h2
theorem GI.fin {a0 b0 i a b : Nat} (h : GI a0 b0 i a b) (hi : 20000 ≤ i) : b = 0 := by
  obtain ⟨h1, h2⟩ := h.z (by omega)
  apply Classical.byContradiction
  intro hb
  have h3 : 1 ≤ a * b := Nat.mul_pos (by omega) (by omega)
  have h4 : 2 ^ (i - 1) ≤ 2 ^ 8000 := Nat.le_trans (by have := Nat.mul_le_mul_right (2 ^ (i - 1)) h3; rw [Nat.one_mul] at this; exact this) h2
  have := (Nat.pow_le_pow_iff_right (a := 2) (by decide)).mp h4
  omega
/-- p / q, q above 0 (the program's own), q not 0 (the law's) -/
def R_ratP : RP := fun ds post => ∃ p q : Int, ds = [.int p, .int q] ∧ 0 < q ∧ Bd 4000 p ∧ Bd 4000 q ∧ post (.dat (frQ (Rat.divInt p q)))
theorem ap_ratP {p q : Int} {post : Rt → Prop} (hq : 0 < q) (h1 : Bd 4000 p) (h2 : Bd 4000 q) (h : post (.dat (frQ (Rat.divInt p q)))) : R_ratP [.int p, .int q] post := ⟨p, q, rfl, hq, h1, h2, h⟩
theorem mo_ratP : MonoP R_ratP := fun ds p q m ⟨a, b, c, d, e, f, h⟩ => ⟨a, b, c, d, e, f, m _ h⟩
def R_ratQ : RP := fun ds post => ∃ p q : Int, ds = [.int p, .int q] ∧ q ≠ 0 ∧ Bd 4000 p ∧ Bd 4000 q ∧ post (.dat (frQ (Rat.divInt p q)))
theorem ap_ratQ {p q : Int} {post : Rt → Prop} (hq : q ≠ 0) (h1 : Bd 4000 p) (h2 : Bd 4000 q) (h : post (.dat (frQ (Rat.divInt p q)))) : R_ratQ [.int p, .int q] post := ⟨p, q, rfl, hq, h1, h2, h⟩
theorem mo_ratQ : MonoP R_ratQ := fun ds p q m ⟨a, b, c, d, e, f, h⟩ => ⟨a, b, c, d, e, f, m _ h⟩
/-- an operation on two fractions -/
def R_op (op : Rat → Rat → Rat) (C : Rat → Rat → Prop) : RP := fun ds post => ∃ (x y : Rat) (k l : Nat), ds = [frQ x, frQ y] ∧ QB k x ∧ QB l y ∧ 0 < k ∧ 0 < l ∧ k + l + 1 ≤ 4000 ∧ C x y ∧ post (.dat (frQ (op x y)))
theorem ap_op {op : Rat → Rat → Rat} {C : Rat → Rat → Prop} {x y : Rat} (k l : Nat) {post : Rt → Prop} (h1 : QB k x) (h2 : QB l y) (h3 : 0 < k) (h4 : 0 < l) (h5 : k + l + 1 ≤ 4000) (h6 : C x y) (h : post (.dat (frQ (op x y)))) : R_op op C [frQ x, frQ y] post := ⟨x, y, k, l, rfl, h1, h2, h3, h4, h5, h6, h⟩
theorem mo_op (op : Rat → Rat → Rat) (C : Rat → Rat → Prop) : MonoP (R_op op C) := fun ds p q m ⟨a, b, c, d, e, f, g, i, j, k, n, h⟩ => ⟨a, b, c, d, e, f, g, i, j, k, n, m _ h⟩
abbrev R_add : RP := R_op (· + ·) fun _ _ => True
abbrev R_less : RP := R_op (· - ·) fun _ _ => True
abbrev R_mul : RP := R_op (· * ·) fun _ _ => True
abbrev R_over : RP := R_op (· / ·) fun _ y => y ≠ 0
structure Bs (mg : Str → Option Value) : Prop where
  b_int : mg "int" = none
  b_len : mg "len" = none
structure Bs2 (mg : Str → Option Value) : Prop extends Bs mg where
  b_range : mg "range" = none
  b_abs : mg "abs" = none
  b_str : mg "str" = none
  b_isinstance : mg "isinstance" = none
  b_sorted : mg "sorted" = none
  b_tuple : mg "tuple" = none
  b_dict : mg "dict" = none
  b_list : mg "list" = none
  b_bool : mg "bool" = none
  k_gcd : mg "gcd" = some (.builtin "math.gcd")
abbrev R_overP : RP := R_op (· / ·) fun _ y => 0 < y.num
section
variable {P : Program} {w : World} {K : PySem.W.Frag} {mg : Str → Option Value} {base : Heap}
theorem ok_law_mixed {f : Addr} {fd : FuncData} (C : Bs mg) (Fu : Fun K "_law_mixed" "_law_mixed" s_law_mixed f fd) : FnOk P w K mg base CX0 1 f fd ["number", "place"] (spP K R_mixed) := by
  refine fn_P Fu sc_law_mixed (fun ds post h => ?_) fun X F ds post hX hfn hH h => ?_
  · obtain ⟨n, p, rfl, _⟩ := h
    rfl
  · obtain ⟨n, p, rfl, k⟩ := h
    have bx := hX.bx
    have r0 := hX.nmR (i := 0) (x := "number") rfl (by first | exact Or.inl (by decide +kernel) | exact Or.inr (Or.inl (by decide +kernel))); have w0 := hX.nmW (i := 0) (x := "number") rfl (by decide +kernel); have r1 := hX.nmR (i := 1) (x := "place") rfl (by first | exact Or.inl (by decide +kernel) | exact Or.inr (Or.inl (by decide +kernel))); have w1 := hX.nmW (i := 1) (x := "place") rfl (by decide +kernel); have r2 := hX.nmR (i := 2) (x := "first") rfl (by first | exact Or.inl (by decide +kernel) | exact Or.inr (Or.inl (by decide +kernel))); have w2 := hX.nmW (i := 2) (x := "first") rfl (by decide +kernel); have r3 := hX.nmR (i := 3) (x := "second") rfl (by first | exact Or.inl (by decide +kernel) | exact Or.inr (Or.inl (by decide +kernel))); have w3 := hX.nmW (i := 3) (x := "second") rfl (by decide +kernel); have r4 := hX.nmR (i := 4) (x := "third") rfl (by first | exact Or.inl (by decide +kernel) | exact Or.inr (Or.inl (by decide +kernel))); have w4 := hX.nmW (i := 4) (x := "third") rfl (by decide +kernel); have g_int := hX.glb (x := "int") (by decide +kernel) C.b_int
    conv => (arg 3; whnf)
    walk_at "go"
    exact k _ (by omega)
theorem ok_law_rest {f : Addr} {fd : FuncData} (C : Bs mg) (c_law_mixed : CaP P w K mg base "_law_mixed" 1 R_mixed) (Fu : Fun K "_law_rest" "_law_rest" s_law_rest f fd) : FnOk P w K mg base CX0 2 f fd ["script", "place", "fills"] (spP K R_rest) := by
  refine fn_P Fu sc_law_rest (fun ds post h => ?_) fun X F ds post hX hfn hH h => ?_
  · obtain ⟨ns, n, p, rfl, _⟩ := h
    rfl
  · obtain ⟨ns, n, p, rfl, k⟩ := h
    have bx := hX.bx
    have r0 := hX.nmR (i := 0) (x := "script") rfl (by first | exact Or.inl (by decide +kernel) | exact Or.inr (Or.inl (by decide +kernel))); have w0 := hX.nmW (i := 0) (x := "script") rfl (by decide +kernel); have r1 := hX.nmR (i := 1) (x := "place") rfl (by first | exact Or.inl (by decide +kernel) | exact Or.inr (Or.inl (by decide +kernel))); have w1 := hX.nmW (i := 1) (x := "place") rfl (by decide +kernel); have r2 := hX.nmR (i := 2) (x := "fills") rfl (by first | exact Or.inl (by decide +kernel) | exact Or.inr (Or.inl (by decide +kernel))); have w2 := hX.nmW (i := 2) (x := "fills") rfl (by decide +kernel); have r3 := hX.nmR (i := 3) (x := "number") rfl (by first | exact Or.inl (by decide +kernel) | exact Or.inr (Or.inl (by decide +kernel))); have w3 := hX.nmW (i := 3) (x := "number") rfl (by decide +kernel); have g_len := hX.glb (x := "len") (by decide +kernel) C.b_len; have g_int := hX.glb (x := "int") (by decide +kernel) C.b_int; have d_law_mixed := c_law_mixed.at hX (by decide +kernel)
    conv => (arg 3; whnf)
    walk_at "st"; walk_at "st"
    refine jss_ifM (fun s1 => ∃ z : Int, s1 = (entry N_law_rest (List.map E.d [lsI ns, D.int n, D.int p]) [] 0).set 3 (E.d (D.int z))) ?_ ?_
    · walk_at "go"
      · have hl : 0 < ((ns.map D.int).map E.d).length := by omega
        obtain ⟨x, h1, h2⟩ := atI_mod hl n
        refine jx_seq rfl (.inl rfl) h1 ?_
        simp only [List.map_map, List.mem_map, Function.comp] at h2
        obtain ⟨z, _, rfl⟩ := h2
        walk_at "go"
        exact ⟨z, rfl⟩
      · exact ⟨0, rfl⟩
    · rintro s1 ⟨z, rfl⟩
      refine jss_ifM (fun s1 => ∃ z : Int, 0 ≤ z ∧ s1 = (entry N_law_rest (List.map E.d [lsI ns, D.int n, D.int p]) [] 0).set 3 (E.d (D.int z))) ?_ ?_
      · walk_at "go"
        · exact ⟨1 - 2 * z, by omega, rfl⟩
        · exact ⟨z, by omega, rfl⟩
      · rintro s1 ⟨z, hz, rfl⟩
        walk_at "go"
        · have e : (10 : Int) ^ Int.toNat 18 = 1000000000000000000 := by decide
          rename_i hb
          rw [e] at hb ⊢
          exact k _ (by omega)
        all_goals refine ap_mixed fun r hr => ?_
        all_goals exact k _ hr
theorem ok_law_pool {f : Addr} {fd : FuncData} (C : Bs mg) (c_law_rest : CaP P w K mg base "_law_rest" 2 R_rest) (Fu : Fun K "_law_pool" "_law_pool" s_law_pool f fd) : FnOk P w K mg base CX0 3 f fd ["script"] (spP K R_pool) := by
  refine fn_P Fu sc_law_pool (fun ds post h => ?_) fun X F ds post hX hfn hH h => ?_
  · obtain ⟨ns, rfl, _⟩ := h
    rfl
  · obtain ⟨ns, rfl, k⟩ := h
    have bx := hX.bx
    have r0 := hX.nmR (i := 0) (x := "script") rfl (by first | exact Or.inl (by decide +kernel) | exact Or.inr (Or.inl (by decide +kernel))); have w0 := hX.nmW (i := 0) (x := "script") rfl (by decide +kernel); have d_law_rest := c_law_rest.at hX (by decide +kernel)
    conv => (arg 3; whnf)
    refine jss_ret (je_own (jn_lst ?_))
    walk_at "go"
    refine ap_rest fun r hr => ?_
    walk_at "go"
    exact ⟨rfl, .lst, _, _, rfl, rfl, Nat.zero_le _, k _ ⟨ns, _, _, _, rfl, hr⟩⟩
theorem ok_law_next {f : Addr} {fd : FuncData} (C : Bs mg) (c_law_rest : CaP P w K mg base "_law_rest" 2 R_rest) (Fu : Fun K "_law_next" "_law_next" s_law_next f fd) : FnOk P w K mg base CX0 3 f fd ["pool"] (spC K R_next) := by
  refine fn_C Fu sc_law_next (fun kd cds ds post h => ?_) fun X F kd cds ds post hX hfn hH h => ?_
  · obtain ⟨_, _, rfl, _⟩ := h
    rfl
  · obtain ⟨rfl, ⟨ns, i, n, g, rfl, hn⟩, rfl, k⟩ := h
    have bx := hX.bx
    have r0 := hX.nmR (i := 0) (x := "pool") rfl (by first | exact Or.inl (by decide +kernel) | exact Or.inr (Or.inl (by decide +kernel))); have w0 := hX.nmW (i := 0) (x := "pool") rfl (by decide +kernel); have d_law_rest := c_law_rest.at hX (by decide +kernel)
    conv => (arg 3; whnf)
    walk_at "go"
    refine .inl ⟨0, _, _, _, rfl, rfl, rfl, rfl, ?_⟩
    walk_at "go"
    refine ap_rest fun r hr => ?_
    walk_at "go"
    refine .inl ⟨0, _, _, _, rfl, rfl, rfl, rfl, ?_⟩
    walk_at "go"
    refine .inl ⟨0, _, _, _, rfl, rfl, rfl, rfl, ?_⟩
    walk_at "go"
    exact ⟨.lst, _, _, rfl, rfl, k _ ⟨ns, _, _, _, rfl, hr⟩⟩
theorem ok_law_draw {f : Addr} {fd : FuncData} (C : Bs mg) (c_law_rest : CaP P w K mg base "_law_rest" 2 R_rest) (Fu : Fun K "_law_draw" "_law_draw" s_law_draw f fd) : FnOk P w K mg base CX0 3 f fd ["pool", "limit"] (spC K R_draw) := by
  refine fn_C Fu sc_law_draw (fun kd cds ds post h => ?_) fun X F kd cds ds post hX hfn hH h => ?_
  · obtain ⟨_, _, m, rfl, _⟩ := h
    rfl
  · obtain ⟨rfl, ⟨ns, i, n, g, rfl, hn⟩, m, rfl, ⟨hm, hm2⟩, k⟩ := h
    have bx := hX.bx
    have r0 := hX.nmR (i := 0) (x := "pool") rfl (by first | exact Or.inl (by decide +kernel) | exact Or.inr (Or.inl (by decide +kernel))); have w0 := hX.nmW (i := 0) (x := "pool") rfl (by decide +kernel); have r1 := hX.nmR (i := 1) (x := "limit") rfl (by first | exact Or.inl (by decide +kernel) | exact Or.inr (Or.inl (by decide +kernel))); have w1 := hX.nmW (i := 1) (x := "limit") rfl (by decide +kernel); have r2 := hX.nmR (i := 2) (x := "value") rfl (by first | exact Or.inl (by decide +kernel) | exact Or.inr (Or.inl (by decide +kernel))); have w2 := hX.nmW (i := 2) (x := "value") rfl (by decide +kernel); have d_law_rest := c_law_rest.at hX (by decide +kernel); have g_int := hX.glb (x := "int") (by decide +kernel) C.b_int
    conv => (arg 3; whnf)
    refine jss_ifM (fun s1 => ∃ n g : Int, 0 ≤ n ∧ s1 = entry N_law_draw (E.r 0 :: List.map E.d [D.int m]) [.nd .lst (List.map E.d [lsI ns, .int i, .int n, .int g])] 1) ?_ ?_
    · walk_at "go"
      · refine .inl ⟨0, _, _, _, rfl, rfl, rfl, rfl, ?_⟩
        walk_at "go"
        refine ap_rest fun r hr => ?_
        walk_at "go"
        refine .inl ⟨0, _, _, _, rfl, rfl, rfl, rfl, ?_⟩
        walk_at "go"
        exact ⟨r, g + 1, hr, rfl⟩
      · exact ⟨n, g, hn, rfl⟩
    · rintro s1 ⟨n, g, hn, rfl⟩
      have hW : CDiv n m ∨ CDivW n m := .inr ⟨hm, hm2⟩
      walk_at "go"
      refine .inl ⟨0, _, _, _, rfl, rfl, rfl, rfl, ?_⟩
      walk_at "go"
      refine ⟨.lst, _, _, rfl, rfl, ?_⟩
      exact k _ _ (Int.emod_nonneg _ (by omega)) (Int.emod_lt_of_pos _ hm) ⟨ns, _, _, _, rfl, Int.ediv_nonneg hn (by omega)⟩
theorem ok_law_pick {f : Addr} {fd : FuncData} (C : Bs mg) (c_law_draw : CaC P w K mg base "_law_draw" 3 R_draw) (Fu : Fun K "_law_pick" "_law_pick" s_law_pick f fd) : FnOk P w K mg base CX0 4 f fd ["pool", "options"] (spC K R_pick) := by
  refine fn_C Fu sc_law_pick (fun kd cds ds post h => ?_) fun X F kd cds ds post hX hfn hH h => ?_
  · obtain ⟨_, _, k, os, rfl, _⟩ := h
    rfl
  · obtain ⟨rfl, hp, kk, os, rfl, hk, h0, h1, k⟩ := h
    have bx := hX.bx
    have r0 := hX.nmR (i := 0) (x := "pool") rfl (by first | exact Or.inl (by decide +kernel) | exact Or.inr (Or.inl (by decide +kernel))); have w0 := hX.nmW (i := 0) (x := "pool") rfl (by decide +kernel); have r1 := hX.nmR (i := 1) (x := "options") rfl (by first | exact Or.inl (by decide +kernel) | exact Or.inr (Or.inl (by decide +kernel))); have w1 := hX.nmW (i := 1) (x := "options") rfl (by decide +kernel); have d_law_draw := c_law_draw.at hX (by decide +kernel); have g_len := hX.glb (x := "len") (by decide +kernel) C.b_len
    conv => (arg 3; whnf)
    have hkk : ∀ C fs, kk ≠ .ins C fs := by rcases hk with rfl | rfl <;> intro _ _ z <;> cases z
    walk_at "go"
    refine jv_len_nd rfl hkk ?_
    walk_at "go"
    have hl : (os.map E.d).length = os.length := by simp
    refine ap_draw hp (lim_of (by omega) (by omega)) fun v cds' v0 v1 hp' => ?_
    rw [hl] at v1
    refine rtΦ_dat ?_
    obtain ⟨x, x1, x2⟩ := atI_in (xs := os.map E.d) v0 (by omega)
    obtain ⟨d, hd, rfl⟩ := List.mem_map.mp x2
    refine jx_seq rfl hk x1 ?_
    exact ⟨.lst, _, _, rfl, dsOf_map _, k _ _ hd hp'⟩
theorem ok_law_gcd {f : Addr} {fd : FuncData} (C : Bs2 mg) (Fu : Fun K "_law_gcd" "_law_gcd" s_law_gcd f fd) : FnOk P w K mg base CX0 1 f fd ["one", "other"] (spP K R_gcd) := by
  refine fn_P Fu sc_law_gcd (fun ds post h => ?_) fun X F ds post hX hfn hH h => ?_
  · obtain ⟨a, b, rfl, _⟩ := h
    rfl
  · obtain ⟨a0, b0, rfl, h1, h2, ha, hb, k⟩ := h
    obtain ⟨a0, rfl⟩ := Int.eq_ofNat_of_zero_le h1
    obtain ⟨b0, rfl⟩ := Int.eq_ofNat_of_zero_le h2
    have ha : a0 < 2 ^ 4000 := ha
    have hb : b0 < 2 ^ 4000 := hb
    have k : post (.dat (.int (Nat.gcd a0 b0 : Nat))) := k
    have bx := hX.bx
    have r0 := hX.nmR (i := 0) (x := "one") rfl (by first | exact Or.inl (by decide +kernel) | exact Or.inr (Or.inl (by decide +kernel))); have w0 := hX.nmW (i := 0) (x := "one") rfl (by decide +kernel); have r1 := hX.nmR (i := 1) (x := "other") rfl (by first | exact Or.inl (by decide +kernel) | exact Or.inr (Or.inl (by decide +kernel))); have w1 := hX.nmW (i := 1) (x := "other") rfl (by decide +kernel); have r2 := hX.nmR (i := 2) (x := "k") rfl (by first | exact Or.inl (by decide +kernel) | exact Or.inr (Or.inl (by decide +kernel))); have w2 := hX.nmW (i := 2) (x := "k") rfl (by decide +kernel); have g_range := hX.glb (x := "range") (by decide +kernel) C.b_range; have g_int := hX.glb (x := "int") (by decide +kernel) C.b_int
    conv => (arg 3; whnf)
    refine jss_for bx (fun i s => ∃ a b : Nat, GI a0 b0 i a b ∧ ∃ o, s = ⟨[some (.d (.int a)), some (.d (.int b)), o], [], 0⟩) (ji_range1 g_range ?_) (by intro _; rfl)
    walk_at "go"
    refine ⟨by decide, ⟨a0, b0, ⟨rfl, ha, hb, fun z => absurd z (Nat.lt_irrefl _)⟩, _, rfl⟩, ?_, ?_⟩
    · rintro i v s' hi hv ⟨a, b, g, o, rfl⟩
      obtain rfl : v = _ := hv
      walk_at "go"
      · rename_i hb0
        obtain rfl : b = 0 := by omega
        have e := g.g
        rw [Nat.gcd_zero_right] at e
        rw [e]; exact k
      · rename_i hb0
        have hW : CDiv (a : Int) b ∨ CDivW (a : Int) b := .inr ⟨by omega, by rw [Int.natAbs_natCast]; exact Nat.lt_trans (PySem.Flt.log2_lt_of (by decide) g.hb) (by decide)⟩
        refine jss_par' hX w0 w1 (by decide) (by decide +kernel) (by decide +kernel) ?_ rfl
        walk_at "go"
        exact ⟨b, a % b, g.go (by omega), _, rfl⟩
    · rintro s' ⟨a, b, g, o, rfl⟩
      obtain rfl := g.fin (Nat.le_refl _)
      walk_at "go"
      have e := g.g
      rw [Nat.gcd_zero_right] at e
      rw [e]; exact k
theorem ok_law_ratio {f : Addr} {fd : FuncData} (C : Bs2 mg) (c_law_gcd : CaP P w K mg base "_law_gcd" 1 R_gcd) (Fu : Fun K "_law_ratio" "_law_ratio" s_law_ratio f fd) : FnOk P w K mg base CX0 2 f fd ["p", "q"] (spP K R_ratQ) := by
  refine fn_P Fu sc_law_ratio (fun ds post h => ?_) fun X F ds post hX hfn hH h => ?_
  · obtain ⟨a, b, rfl, _⟩ := h
    rfl
  · obtain ⟨p, q, rfl, hq, hp, hq2, k⟩ := h
    have bx := hX.bx
    have r0 := hX.nmR (i := 0) (x := "p") rfl (by first | exact Or.inl (by decide +kernel) | exact Or.inr (Or.inl (by decide +kernel))); have w0 := hX.nmW (i := 0) (x := "p") rfl (by decide +kernel); have r1 := hX.nmR (i := 1) (x := "q") rfl (by first | exact Or.inl (by decide +kernel) | exact Or.inr (Or.inl (by decide +kernel))); have w1 := hX.nmW (i := 1) (x := "q") rfl (by decide +kernel); have r2 := hX.nmR (i := 2) (x := "shared") rfl (by first | exact Or.inl (by decide +kernel) | exact Or.inr (Or.inl (by decide +kernel))); have w2 := hX.nmW (i := 2) (x := "shared") rfl (by decide +kernel); have d_law_gcd := c_law_gcd.at hX (by decide +kernel); have g_abs := hX.glb (x := "abs") (by decide +kernel) C.b_abs
    conv => (arg 3; whnf)
    refine jss_ifM (fun s1 => ∃ p' q' : Int, 0 < q' ∧ Rat.divInt p' q' = Rat.divInt p q ∧ Bd 4000 p' ∧ Bd 4000 q' ∧ ∃ o, s1 = ⟨[some (.d (.int p')), some (.d (.int q')), o], [], 0⟩) ?_ ?_
    · walk_at "go"
      · refine jss_par' hX w0 w1 (by decide) (by decide +kernel) (by decide +kernel) ?_ rfl
        walk_at "go"
        exact ⟨-p, -q, by omega, divInt_neg2 p q, hp.neg, hq2.neg, _, rfl⟩
      · exact ⟨p, q, by omega, rfl, hp, hq2, _, rfl⟩
    · rintro s1 ⟨p', q', h1, h2, h3, h4, o, rfl⟩
      walk_at "go"
      have e : (if p' < 0 then -p' else p').natAbs = p'.natAbs := by split <;> omega
      refine ap_gcd (by split <;> omega) (by omega) (h3.le (by rw [e]; omega)) h4 ?_
      have e2 : Int.gcd (if p' < 0 then -p' else p') q' = Int.gcd p' q' := by unfold Int.gcd; rw [e]
      rw [e2]
      have hg : 0 < (Int.gcd p' q' : Int) := by
        have := Int.gcd_pos_of_ne_zero_right p' (show q' ≠ 0 by omega)
        omega
      have hgq : Int.gcd p' q' ≤ q'.natAbs := Nat.le_of_dvd (by omega) (Nat.gcd_dvd_right _ _)
      have hgb : Bd 4000 (Int.gcd p' q' : Int) := h4.le (by rw [Int.natAbs_natCast]; omega)
      have z1 : CDiv p' (Int.gcd p' q' : Int) ∨ CDivW p' (Int.gcd p' q' : Int) := hgb.cdiv hg (by decide) (by decide)
      have z2 : CDiv q' (Int.gcd p' q' : Int) ∨ CDivW q' (Int.gcd p' q' : Int) := hgb.cdiv hg (by decide) (by decide)
      walk_at "go"
      rw [frQ_div h1, h2]
      exact k
theorem ok_ratio {f : Addr} {fd : FuncData} (C : Bs2 mg) (Fu : Fun K "ratio" "ratio" s_ratio f fd) : FnOk P w K mg base CX0 2 f fd ["p", "q"] (spP K R_ratP) := by
  refine fn_P Fu sc_ratio (fun ds post h => ?_) fun X F ds post hX hfn hH h => ?_
  · obtain ⟨a, b, rfl, _⟩ := h
    rfl
  · obtain ⟨p, q, rfl, hq, hp, hq2, k⟩ := h
    have bx := hX.bx
    have r0 := hX.nmR (i := 0) (x := "p") rfl (by first | exact Or.inl (by decide +kernel) | exact Or.inr (Or.inl (by decide +kernel))); have w0 := hX.nmW (i := 0) (x := "p") rfl (by decide +kernel); have r1 := hX.nmR (i := 1) (x := "q") rfl (by first | exact Or.inl (by decide +kernel) | exact Or.inr (Or.inl (by decide +kernel))); have w1 := hX.nmW (i := 1) (x := "q") rfl (by decide +kernel); have r2 := hX.nmR (i := 2) (x := "shared") rfl (by first | exact Or.inl (by decide +kernel) | exact Or.inr (Or.inl (by decide +kernel))); have w2 := hX.nmW (i := 2) (x := "shared") rfl (by decide +kernel)
    have g_gcd := hX.glf (x := "gcd") (by decide +kernel) C.k_gcd
    conv => (arg 3; whnf)
    have hg : 0 < (Int.gcd p q : Int) := by
      have := Int.gcd_pos_of_ne_zero_right p (show q ≠ 0 by omega)
      omega
    have hgq : Int.gcd p q ≤ q.natAbs := Nat.le_of_dvd (by omega) (Nat.gcd_dvd_right _ _)
    have hgb : Bd 4000 (Int.gcd p q : Int) := hq2.le (by rw [Int.natAbs_natCast]; omega)
    have z1 : CDiv p (Int.gcd p q : Int) ∨ CDivW p (Int.gcd p q : Int) := hgb.cdiv hg (by decide) (by decide)
    have z2 : CDiv q (Int.gcd p q : Int) ∨ CDivW q (Int.gcd p q : Int) := hgb.cdiv hg (by decide) (by decide)
    walk_at "go"
    refine ⟨p, q, rfl, rfl, ?_⟩
    walk_at "go"
    refine jss_if ?_
    walk_at "go"
    rw [frQ_div hq]
    exact k
theorem ok_law_add {f : Addr} {fd : FuncData} (c_law_ratio : CaP P w K mg base "_law_ratio" 2 R_ratQ) (Fu : Fun K "_law_add" "_law_add" s_law_add f fd) : FnOk P w K mg base CX0 3 f fd ["one", "other"] (spP K R_add) := by
  refine fn_P Fu sc_law_add (fun ds post h => ?_) fun X F ds post hX hfn hH h => ?_
  · obtain ⟨_, _, _, _, rfl, _⟩ := h
    rfl
  · obtain ⟨x, y, k, l, rfl, h1, h2, h3, h4, h5, h6, kk⟩ := h
    have bx := hX.bx
    have r0 := hX.nmR (i := 0) (x := "one") rfl (by first | exact Or.inl (by decide +kernel) | exact Or.inr (Or.inl (by decide +kernel))); have w0 := hX.nmW (i := 0) (x := "one") rfl (by decide +kernel); have r1 := hX.nmR (i := 1) (x := "other") rfl (by first | exact Or.inl (by decide +kernel) | exact Or.inr (Or.inl (by decide +kernel))); have w1 := hX.nmW (i := 1) (x := "other") rfl (by decide +kernel); have d_law_ratio := c_law_ratio.at hX (by decide +kernel)
    conv => (arg 3; whnf)
    have z1 := h1.n.cmul h2.db h3 h4 (by omega)
    have z2 := h2.n.cmul h1.db h4 h3 (by omega)
    have z3 := h1.db.cmul h2.db h3 h4 (by omega)
    have y1 : Bd (k + l + 1) (x.num * y.den + y.num * x.den) := (h1.n.mul h2.db).add ((h2.n.mul h1.db).mono (by omega))
    have y2 : Bd (k + l + 1) (x.den * y.den) := (h1.db.mul h2.db).mono (by omega)
    have hpos := q_pos x y
    walk_at "go"
    refine ap_ratQ (Int.ne_of_gt hpos) (y1.mono h5) (y2.mono h5) ?_
    rw [q_add]
    exact kk
theorem ok_law_sub {f : Addr} {fd : FuncData} (c_law_ratio : CaP P w K mg base "_law_ratio" 2 R_ratQ) (Fu : Fun K "_law_sub" "_law_sub" s_law_sub f fd) : FnOk P w K mg base CX0 3 f fd ["one", "other"] (spP K R_less) := by
  refine fn_P Fu sc_law_sub (fun ds post h => ?_) fun X F ds post hX hfn hH h => ?_
  · obtain ⟨_, _, _, _, rfl, _⟩ := h
    rfl
  · obtain ⟨x, y, k, l, rfl, h1, h2, h3, h4, h5, h6, kk⟩ := h
    have bx := hX.bx
    have r0 := hX.nmR (i := 0) (x := "one") rfl (by first | exact Or.inl (by decide +kernel) | exact Or.inr (Or.inl (by decide +kernel))); have w0 := hX.nmW (i := 0) (x := "one") rfl (by decide +kernel); have r1 := hX.nmR (i := 1) (x := "other") rfl (by first | exact Or.inl (by decide +kernel) | exact Or.inr (Or.inl (by decide +kernel))); have w1 := hX.nmW (i := 1) (x := "other") rfl (by decide +kernel); have d_law_ratio := c_law_ratio.at hX (by decide +kernel)
    conv => (arg 3; whnf)
    have z1 := h1.n.cmul h2.db h3 h4 (by omega)
    have z2 := h2.n.cmul h1.db h4 h3 (by omega)
    have z3 := h1.db.cmul h2.db h3 h4 (by omega)
    have y1 : Bd (k + l + 1) (x.num * y.den - y.num * x.den) := (h1.n.mul h2.db).sub ((h2.n.mul h1.db).mono (by omega))
    have y2 : Bd (k + l + 1) (x.den * y.den) := (h1.db.mul h2.db).mono (by omega)
    have hpos := q_pos x y
    walk_at "go"
    refine ap_ratQ (Int.ne_of_gt hpos) (y1.mono h5) (y2.mono h5) ?_
    rw [q_sub]
    exact kk
theorem ok_law_mul {f : Addr} {fd : FuncData} (c_law_ratio : CaP P w K mg base "_law_ratio" 2 R_ratQ) (Fu : Fun K "_law_mul" "_law_mul" s_law_mul f fd) : FnOk P w K mg base CX0 3 f fd ["one", "other"] (spP K R_mul) := by
  refine fn_P Fu sc_law_mul (fun ds post h => ?_) fun X F ds post hX hfn hH h => ?_
  · obtain ⟨_, _, _, _, rfl, _⟩ := h
    rfl
  · obtain ⟨x, y, k, l, rfl, h1, h2, h3, h4, h5, h6, kk⟩ := h
    have bx := hX.bx
    have r0 := hX.nmR (i := 0) (x := "one") rfl (by first | exact Or.inl (by decide +kernel) | exact Or.inr (Or.inl (by decide +kernel))); have w0 := hX.nmW (i := 0) (x := "one") rfl (by decide +kernel); have r1 := hX.nmR (i := 1) (x := "other") rfl (by first | exact Or.inl (by decide +kernel) | exact Or.inr (Or.inl (by decide +kernel))); have w1 := hX.nmW (i := 1) (x := "other") rfl (by decide +kernel); have d_law_ratio := c_law_ratio.at hX (by decide +kernel)
    conv => (arg 3; whnf)
    have z1 := h1.n.cmul h2.n h3 h4 (by omega)
    have z3 := h1.db.cmul h2.db h3 h4 (by omega)
    have y1 : Bd (k + l + 1) (x.num * y.num) := (h1.n.mul h2.n).mono (by omega)
    have y2 : Bd (k + l + 1) (x.den * y.den) := (h1.db.mul h2.db).mono (by omega)
    have hpos := q_pos x y
    walk_at "go"
    refine ap_ratQ (Int.ne_of_gt hpos) (y1.mono h5) (y2.mono h5) ?_
    rw [q_mul]
    exact kk
theorem ok_law_div {f : Addr} {fd : FuncData} (c_law_ratio : CaP P w K mg base "_law_ratio" 2 R_ratQ) (Fu : Fun K "_law_div" "_law_div" s_law_div f fd) : FnOk P w K mg base CX0 3 f fd ["one", "other"] (spP K R_over) := by
  refine fn_P Fu sc_law_div (fun ds post h => ?_) fun X F ds post hX hfn hH h => ?_
  · obtain ⟨_, _, _, _, rfl, _⟩ := h
    rfl
  · obtain ⟨x, y, k, l, rfl, h1, h2, h3, h4, h5, h6, kk⟩ := h
    have bx := hX.bx
    have r0 := hX.nmR (i := 0) (x := "one") rfl (by first | exact Or.inl (by decide +kernel) | exact Or.inr (Or.inl (by decide +kernel))); have w0 := hX.nmW (i := 0) (x := "one") rfl (by decide +kernel); have r1 := hX.nmR (i := 1) (x := "other") rfl (by first | exact Or.inl (by decide +kernel) | exact Or.inr (Or.inl (by decide +kernel))); have w1 := hX.nmW (i := 1) (x := "other") rfl (by decide +kernel); have d_law_ratio := c_law_ratio.at hX (by decide +kernel)
    conv => (arg 3; whnf)
    have z1 := h1.n.cmul h2.db h3 h4 (by omega)
    have z3 := h1.db.cmul h2.n h3 h4 (by omega)
    have y1 : Bd (k + l + 1) (x.num * y.den) := (h1.n.mul h2.db).mono (by omega)
    have y2 : Bd (k + l + 1) (x.den * y.num) := (h1.db.mul h2.n).mono (by omega)
    have hne : (x.den : Int) * y.num ≠ 0 := Int.mul_ne_zero (Int.ne_of_gt (den_pos' x)) (fun z => h6 (Rat.num_eq_zero.mp z))
    walk_at "go"
    refine ap_ratQ hne (y1.mono h5) (y2.mono h5) ?_
    rw [q_over]
    exact kk
theorem ok_added {f : Addr} {fd : FuncData} (c_ratio : CaP P w K mg base "ratio" 2 R_ratP) (Fu : Fun K "added" "added" s_added f fd) : FnOk P w K mg base CX0 3 f fd ["one", "other"] (spP K R_add) := by
  refine fn_P Fu sc_added (fun ds post h => ?_) fun X F ds post hX hfn hH h => ?_
  · obtain ⟨_, _, _, _, rfl, _⟩ := h
    rfl
  · obtain ⟨x, y, k, l, rfl, h1, h2, h3, h4, h5, h6, kk⟩ := h
    have bx := hX.bx
    have r0 := hX.nmR (i := 0) (x := "one") rfl (by first | exact Or.inl (by decide +kernel) | exact Or.inr (Or.inl (by decide +kernel))); have w0 := hX.nmW (i := 0) (x := "one") rfl (by decide +kernel); have r1 := hX.nmR (i := 1) (x := "other") rfl (by first | exact Or.inl (by decide +kernel) | exact Or.inr (Or.inl (by decide +kernel))); have w1 := hX.nmW (i := 1) (x := "other") rfl (by decide +kernel); have d_ratio := c_ratio.at hX (by decide +kernel)
    conv => (arg 3; whnf)
    have z1 := h1.n.cmul h2.db h3 h4 (by omega)
    have z2 := h2.n.cmul h1.db h4 h3 (by omega)
    have z3 := h1.db.cmul h2.db h3 h4 (by omega)
    have y1 : Bd (k + l + 1) (x.num * y.den + y.num * x.den) := (h1.n.mul h2.db).add ((h2.n.mul h1.db).mono (by omega))
    have y2 : Bd (k + l + 1) (x.den * y.den) := (h1.db.mul h2.db).mono (by omega)
    have hpos := q_pos x y
    walk_at "go"
    refine ap_ratP hpos (y1.mono h5) (y2.mono h5) ?_
    rw [q_add]
    exact kk
theorem ok_less {f : Addr} {fd : FuncData} (c_ratio : CaP P w K mg base "ratio" 2 R_ratP) (Fu : Fun K "less" "less" s_less f fd) : FnOk P w K mg base CX0 3 f fd ["one", "other"] (spP K R_less) := by
  refine fn_P Fu sc_less (fun ds post h => ?_) fun X F ds post hX hfn hH h => ?_
  · obtain ⟨_, _, _, _, rfl, _⟩ := h
    rfl
  · obtain ⟨x, y, k, l, rfl, h1, h2, h3, h4, h5, h6, kk⟩ := h
    have bx := hX.bx
    have r0 := hX.nmR (i := 0) (x := "one") rfl (by first | exact Or.inl (by decide +kernel) | exact Or.inr (Or.inl (by decide +kernel))); have w0 := hX.nmW (i := 0) (x := "one") rfl (by decide +kernel); have r1 := hX.nmR (i := 1) (x := "other") rfl (by first | exact Or.inl (by decide +kernel) | exact Or.inr (Or.inl (by decide +kernel))); have w1 := hX.nmW (i := 1) (x := "other") rfl (by decide +kernel); have d_ratio := c_ratio.at hX (by decide +kernel)
    conv => (arg 3; whnf)
    have z1 := h1.n.cmul h2.db h3 h4 (by omega)
    have z2 := h2.n.cmul h1.db h4 h3 (by omega)
    have z3 := h1.db.cmul h2.db h3 h4 (by omega)
    have y1 : Bd (k + l + 1) (x.num * y.den - y.num * x.den) := (h1.n.mul h2.db).sub ((h2.n.mul h1.db).mono (by omega))
    have y2 : Bd (k + l + 1) (x.den * y.den) := (h1.db.mul h2.db).mono (by omega)
    have hpos := q_pos x y
    walk_at "go"
    refine ap_ratP hpos (y1.mono h5) (y2.mono h5) ?_
    rw [q_sub]
    exact kk
theorem ok_times {f : Addr} {fd : FuncData} (c_ratio : CaP P w K mg base "ratio" 2 R_ratP) (Fu : Fun K "times" "times" s_times f fd) : FnOk P w K mg base CX0 3 f fd ["one", "other"] (spP K R_mul) := by
  refine fn_P Fu sc_times (fun ds post h => ?_) fun X F ds post hX hfn hH h => ?_
  · obtain ⟨_, _, _, _, rfl, _⟩ := h
    rfl
  · obtain ⟨x, y, k, l, rfl, h1, h2, h3, h4, h5, h6, kk⟩ := h
    have bx := hX.bx
    have r0 := hX.nmR (i := 0) (x := "one") rfl (by first | exact Or.inl (by decide +kernel) | exact Or.inr (Or.inl (by decide +kernel))); have w0 := hX.nmW (i := 0) (x := "one") rfl (by decide +kernel); have r1 := hX.nmR (i := 1) (x := "other") rfl (by first | exact Or.inl (by decide +kernel) | exact Or.inr (Or.inl (by decide +kernel))); have w1 := hX.nmW (i := 1) (x := "other") rfl (by decide +kernel); have d_ratio := c_ratio.at hX (by decide +kernel)
    conv => (arg 3; whnf)
    have z1 := h1.n.cmul h2.n h3 h4 (by omega)
    have z3 := h1.db.cmul h2.db h3 h4 (by omega)
    have y1 : Bd (k + l + 1) (x.num * y.num) := (h1.n.mul h2.n).mono (by omega)
    have y2 : Bd (k + l + 1) (x.den * y.den) := (h1.db.mul h2.db).mono (by omega)
    have hpos := q_pos x y
    walk_at "go"
    refine ap_ratP hpos (y1.mono h5) (y2.mono h5) ?_
    rw [q_mul]
    exact kk
/-- -1, 0 or 1 -/
def sgI (x : Rat) : Int := if x.num = 0 then 0 else if 0 < x.num then 1 else -1
def R_sign : RP := fun ds post => ∃ x : Rat, ds = [frQ x] ∧ post (.dat (.int (sgI x)))
theorem ap_sign {x : Rat} {post : Rt → Prop} (h : post (.dat (.int (sgI x)))) : R_sign [frQ x] post := ⟨x, rfl, h⟩
theorem mo_sign : MonoP R_sign := fun ds p q m ⟨a, b, h⟩ => ⟨a, b, m _ h⟩
theorem ok_sign {f : Addr} {fd : FuncData} (Fu : Fun K "sign" "sign" s_sign f fd) : FnOk P w K mg base CX0 1 f fd ["one"] (spP K R_sign) := by
  refine fn_P Fu sc_sign (fun ds post h => ?_) fun X F ds post hX hfn hH h => ?_
  · obtain ⟨_, rfl, _⟩ := h
    rfl
  · obtain ⟨x, rfl, k⟩ := h
    have bx := hX.bx
    have r0 := hX.nmR (i := 0) (x := "one") rfl (by first | exact Or.inl (by decide +kernel) | exact Or.inr (Or.inl (by decide +kernel))); have w0 := hX.nmW (i := 0) (x := "one") rfl (by decide +kernel)
    conv => (arg 3; whnf)
    unfold sgI at k
    walk_at "go"
    · rename_i h0
      rw [if_pos h0] at k
      exact k
    · rename_i h0 h1
      rw [if_neg h0, if_pos h1] at k
      exact k
    · rename_i h0 h1
      rw [if_neg h0, if_neg h1] at k
      exact k
def R_below : RP := fun ds post => ∃ (x y : Rat) (k l : Nat), ds = [frQ x, frQ y] ∧ QB k x ∧ QB l y ∧ 0 < k ∧ 0 < l ∧ k + l + 1 ≤ 4000 ∧ post (.dat (.bl (decide (x < y))))
theorem ap_below {x y : Rat} (k l : Nat) {post : Rt → Prop} (h1 : QB k x) (h2 : QB l y) (h3 : 0 < k) (h4 : 0 < l) (h5 : k + l + 1 ≤ 4000) (h : post (.dat (.bl (decide (x < y))))) : R_below [frQ x, frQ y] post := ⟨x, y, k, l, rfl, h1, h2, h3, h4, h5, h⟩
theorem mo_below : MonoP R_below := fun ds p q m ⟨a, b, c, d, e, f, g, i, j, k, h⟩ => ⟨a, b, c, d, e, f, g, i, j, k, m _ h⟩
theorem ok_below {f : Addr} {fd : FuncData} (Fu : Fun K "below" "below" s_below f fd) : FnOk P w K mg base CX0 1 f fd ["one", "other"] (spP K R_below) := by
  refine fn_P Fu sc_below (fun ds post h => ?_) fun X F ds post hX hfn hH h => ?_
  · obtain ⟨_, _, _, _, rfl, _⟩ := h
    rfl
  · obtain ⟨x, y, k, l, rfl, h1, h2, h3, h4, h5, kk⟩ := h
    have bx := hX.bx
    have r0 := hX.nmR (i := 0) (x := "one") rfl (by first | exact Or.inl (by decide +kernel) | exact Or.inr (Or.inl (by decide +kernel))); have w0 := hX.nmW (i := 0) (x := "one") rfl (by decide +kernel); have r1 := hX.nmR (i := 1) (x := "other") rfl (by first | exact Or.inl (by decide +kernel) | exact Or.inr (Or.inl (by decide +kernel))); have w1 := hX.nmW (i := 1) (x := "other") rfl (by decide +kernel)
    conv => (arg 3; whnf)
    have z1 := h1.n.cmul h2.db h3 h4 (by omega)
    have z2 := h2.n.cmul h1.db h4 h3 (by omega)
    rw [show decide (x < y) = decide (x.num * y.den < y.num * x.den) from decide_eq_decide.mpr (Rat.lt_iff x y)] at kk
    walk_at "go"
    exact kk
theorem ok_over {f : Addr} {fd : FuncData} (c_ratio : CaP P w K mg base "ratio" 2 R_ratP) (Fu : Fun K "over" "over" s_over f fd) : FnOk P w K mg base CX0 3 f fd ["one", "other"] (spP K R_overP) := by
  refine fn_P Fu sc_over (fun ds post h => ?_) fun X F ds post hX hfn hH h => ?_
  · obtain ⟨_, _, _, _, rfl, _⟩ := h
    rfl
  · obtain ⟨x, y, k, l, rfl, h1, h2, h3, h4, h5, h6, kk⟩ := h
    have bx := hX.bx
    have r0 := hX.nmR (i := 0) (x := "one") rfl (by first | exact Or.inl (by decide +kernel) | exact Or.inr (Or.inl (by decide +kernel))); have w0 := hX.nmW (i := 0) (x := "one") rfl (by decide +kernel); have r1 := hX.nmR (i := 1) (x := "other") rfl (by first | exact Or.inl (by decide +kernel) | exact Or.inr (Or.inl (by decide +kernel))); have w1 := hX.nmW (i := 1) (x := "other") rfl (by decide +kernel); have d_ratio := c_ratio.at hX (by decide +kernel)
    conv => (arg 3; whnf)
    have z1 := h1.n.cmul h2.db h3 h4 (by omega)
    have z3 := h1.db.cmul h2.n h3 h4 (by omega)
    have y1 : Bd (k + l + 1) (x.num * y.den) := (h1.n.mul h2.db).mono (by omega)
    have y2 : Bd (k + l + 1) (x.den * y.num) := (h1.db.mul h2.n).mono (by omega)
    have hpos : (0 : Int) < x.den * y.num := Int.mul_pos (den_pos' x) h6
    walk_at "go"
    refine ap_ratP hpos (y1.mono h5) (y2.mono h5) ?_
    rw [q_over]
    exact kk
end
/-- alike: what stands in the one stands in the other, whatever the order of keys -/
def Sm : Nat → D → D → Prop
  | 0, _, _ => False
  | n + 1, a, .nd .tup ds => ∃ as, a = .nd .tup as ∧ as.length = ds.length ∧ ds.length ≤ 16000000 ∧ ∀ (i : Nat) (x y : D), as[i]? = some x → ds[i]? = some y → Sm n x y
  | n + 1, a, .nd .lst ds => ∃ as, a = .nd .lst as ∧ as.length = ds.length ∧ ds.length ≤ 16000000 ∧ ∀ (i : Nat) (x y : D), as[i]? = some x → ds[i]? = some y → Sm n x y
  | n + 1, a, .nd (.dct ks) ds => ∃ ka as, a = .nd (.dct ka) as ∧ as.length = ds.length ∧ ks.length = ds.length ∧ ks.Nodup ∧ ds.length ≤ 16000000 ∧ ∀ (i : Nat) (k : Key) (y : D), ks[i]? = some k → ds[i]? = some y → ∃ x, lk (ka.zip as) k = some x ∧ Sm n x y
  | _ + 1, _, .nd (.ins _ _) _ => False
  | _ + 1, a, .non => a = .non
  | _ + 1, a, .bl b => a = .bl b
  | _ + 1, a, .int b => a = .int b
  | _ + 1, a, .str b => a = .str b
def R_same (n : Nat) : RP := fun ds post => ∃ a d, ds = [a, d] ∧ Sm n a d ∧ post (.dat (.bl true))
theorem ap_same {n : Nat} {a d : D} {post : Rt → Prop} (h : Sm n a d) (q : post (.dat (.bl true))) : R_same n [a, d] post := ⟨a, d, rfl, h, q⟩
theorem mo_same (n : Nat) : MonoP (R_same n) := fun ds p q m ⟨a, b, c, d, h⟩ => ⟨a, b, c, d, m _ h⟩
section
variable {P : Program} {w : World} {K : PySem.W.Frag} {mg : Str → Option Value} {base : Heap}
theorem step_same (n : Nat) {f : Addr} {fd : FuncData} (C : Bs2 mg) (c_law_same : CaP P w K mg base "_law_same" n (R_same n)) (Fu : Fun K "_law_same" "_law_same" s_law_same f fd) : FnOk P w K mg base CX0 (n + 1) f fd ["answer", "due"] (spP K (R_same (n + 1))) := by
  refine fn_P Fu sc_law_same (fun ds post h => ?_) fun X F ds post hX hfn hH h => ?_
  · obtain ⟨_, _, rfl, _⟩ := h
    rfl
  · obtain ⟨a, d, rfl, h, k⟩ := h
    have bx := hX.bx
    have r0 := hX.nmR (i := 0) (x := "answer") rfl (by first | exact Or.inl (by decide +kernel) | exact Or.inr (Or.inl (by decide +kernel))); have w0 := hX.nmW (i := 0) (x := "answer") rfl (by decide +kernel); have r1 := hX.nmR (i := 1) (x := "due") rfl (by first | exact Or.inl (by decide +kernel) | exact Or.inr (Or.inl (by decide +kernel))); have w1 := hX.nmW (i := 1) (x := "due") rfl (by decide +kernel); have r2 := hX.nmR (i := 2) (x := "key") rfl (by first | exact Or.inl (by decide +kernel) | exact Or.inr (Or.inl (by decide +kernel))); have w2 := hX.nmW (i := 2) (x := "key") rfl (by decide +kernel); have r3 := hX.nmR (i := 3) (x := "k") rfl (by first | exact Or.inl (by decide +kernel) | exact Or.inr (Or.inl (by decide +kernel))); have w3 := hX.nmW (i := 3) (x := "k") rfl (by decide +kernel); have g_isinstance := hX.glb (x := "isinstance") (by decide +kernel) C.b_isinstance; have g_int := hX.glb (x := "int") (by decide +kernel) C.b_int; have g_bool := hX.glb (x := "bool") (by decide +kernel) C.b_bool; have g_str := hX.glb (x := "str") (by decide +kernel) C.b_str; have g_dict := hX.glb (x := "dict") (by decide +kernel) C.b_dict; have g_len := hX.glb (x := "len") (by decide +kernel) C.b_len; have d_law_same := c_law_same.at hX (by decide +kernel); have g_tuple := hX.glb (x := "tuple") (by decide +kernel) C.b_tuple; have g_list := hX.glb (x := "list") (by decide +kernel) C.b_list; have g_range := hX.glb (x := "range") (by decide +kernel) C.b_range
    conv => (arg 3; whnf)
    cases d with
    | non =>
      obtain rfl : a = _ := h
      walk_at "go"; exact k
    | bl b =>
      obtain rfl : a = _ := h
      cases b <;> (walk_at "go"; exact k)
    | int i =>
      obtain rfl : a = _ := h
      walk_at "go"; exact k
    | str z =>
      obtain rfl : a = _ := h
      walk_at "go"; exact k
    | nd kd ds =>
      cases kd with
      | ins C fs => exact h.elim
      | tup =>
        obtain ⟨as, rfl, hl, hs, hh⟩ := h
        have el : ((as.map E.d).length : Int) = ((ds.map E.d).length : Int) := by simp [hl]
        walk_at "go"
        refine jss_for bx (fun i s => ∃ o o2, s = ⟨[some (.d (.nd .tup as)), some (.d (.nd .tup ds)), o, o2], [], 0⟩) (ji_range1 g_range ?_) (by intro _; rfl)
        walk_at "go"
        have ln : (ds.map E.d).length = ds.length := List.length_map _
        refine ⟨by rw [ln]; omega, ⟨_, _, rfl⟩, ?_, ?_⟩
        · rintro i v s' hi hv ⟨o, o2, rfl⟩
          obtain rfl : v = _ := hv
          have hi2 : i < ds.length := by rw [ln] at hi; omega
          have hd : ds[i]? = some ds[i] := List.getElem?_eq_getElem hi2
          have ha : as[i]? = some (as[i]'(by omega)) := List.getElem?_eq_getElem (by omega)
          have zi : (0 : Int) + i = i := Int.zero_add _
          rw [zi]
          walk_at "go"
          refine jx_seq rfl (.inr rfl) (L2.atI_nat (by rw [List.getElem?_map, ha]; rfl)) ?_
          walk_at "go"
          refine jx_seq rfl (.inr rfl) (L2.atI_nat (by rw [List.getElem?_map, hd]; rfl)) ?_
          walk_at "go"
          refine ap_same (hh i _ _ ha hd) ?_
          walk_at "go"
          exact ⟨_, _, rfl⟩
        · rintro s' ⟨o, o2, rfl⟩
          walk_at "go"
          exact k
      | lst =>
        obtain ⟨as, rfl, hl, hs, hh⟩ := h
        have el : ((as.map E.d).length : Int) = ((ds.map E.d).length : Int) := by simp [hl]
        walk_at "go"
        refine jss_for bx (fun i s => ∃ o o2, s = ⟨[some (.d (.nd .lst as)), some (.d (.nd .lst ds)), o, o2], [], 0⟩) (ji_range1 g_range ?_) (by intro _; rfl)
        walk_at "go"
        have ln : (ds.map E.d).length = ds.length := List.length_map _
        refine ⟨by rw [ln]; omega, ⟨_, _, rfl⟩, ?_, ?_⟩
        · rintro i v s' hi hv ⟨o, o2, rfl⟩
          obtain rfl : v = _ := hv
          have hi2 : i < ds.length := by rw [ln] at hi; omega
          have hd : ds[i]? = some ds[i] := List.getElem?_eq_getElem hi2
          have ha : as[i]? = some (as[i]'(by omega)) := List.getElem?_eq_getElem (by omega)
          have zi : (0 : Int) + i = i := Int.zero_add _
          rw [zi]
          walk_at "go"
          refine jx_seq rfl (.inl rfl) (L2.atI_nat (by rw [List.getElem?_map, ha]; rfl)) ?_
          walk_at "go"
          refine jx_seq rfl (.inl rfl) (L2.atI_nat (by rw [List.getElem?_map, hd]; rfl)) ?_
          walk_at "go"
          refine ap_same (hh i _ _ ha hd) ?_
          walk_at "go"
          exact ⟨_, _, rfl⟩
        · rintro s' ⟨o, o2, rfl⟩
          walk_at "go"
          exact k
      | dct ks =>
        obtain ⟨ka, as, rfl, hl, hl2, nd, hs, hh⟩ := h
        have el : ((as.map E.d).length : Int) = ((ds.map E.d).length : Int) := by simp [hl]
        walk_at "go"
        refine jss_for bx (fun i s => ∃ o o2, s = ⟨[some (.d (.nd (.dct ka) as)), some (.d (.nd (.dct ks) ds)), o, o2], [], 0⟩) (ji_keys ?_) (by intro _; rfl)
        walk_at "go"
        refine ⟨_, _, rfl, ⟨_, _, rfl⟩, ?_, ?_⟩
        · rintro i v s' hi ⟨d, hd, rfl⟩ ⟨o, o2, rfl⟩
          rw [List.getElem?_map] at hd
          have hk : ks[i]? = some ks[i] := List.getElem?_eq_getElem hi
          rw [hk] at hd
          cases hd
          have hi2 : i < ds.length := by omega
          have hv : ds[i]? = some ds[i] := List.getElem?_eq_getElem hi2
          have hkE : keyE (.d (kD ks[i])) = some ks[i] := by cases ks[i] <;> rfl
          obtain ⟨x, hx, hsm⟩ := hh i _ _ hk hv
          walk_at "go"
          · rename_i hb
            rw [lk_memK hx] at hb
            cases hb
          · refine jx_dct bx.hu rfl hkE (by rw [lk_map, hx]; rfl) ?_
            walk_at "go"
            refine jx_dct bx.hu rfl hkE (lk_get (i := i) nd hk (by rw [List.getElem?_map, hv]; rfl)) ?_
            walk_at "go"
            refine ap_same hsm ?_
            walk_at "go"
            exact ⟨_, _, rfl⟩
        · rintro s' ⟨o, o2, rfl⟩
          walk_at "go"
          exact k
end
/-! rights -/
structure Rg where
  name : Str
  holder : Str
  src : Str
  snk : Str
  amt : Rat
abbrev rgD (r : Rg) : D := .nd .tup [.str r.name, .str r.holder, .str r.src, .str r.snk, frQ r.amt]
abbrev rgsD (rs : List Rg) : D := .nd .lst (rs.map rgD)
structure RgOk (rs : List Rg) : Prop where
  sz : rs.length ≤ 24
  ok : ∀ r ∈ rs, QB 40 r.amt
def val (m : FM Rat) (y : Str) : Rat := (m.get y).getD 0
/-- a map whose values are small -/
theorem foldl_take {α β : Type} {f : β → α → β} {b : β} {l : List α} {i : Nat} {a : α} (h : l[i]? = some a) : (l.take (i + 1)).foldl f b = f ((l.take i).foldl f b) a := by
  rw [← take_snoc h, List.foldl_append]; rfl
abbrev fmR (m : FM Rat) : Rt := .new (.dct (fmK m)) (fmV frQ m)
section
variable {P : Program} {w : World} {K : PySem.W.Frag} {mg : Str → Option Value} {base : Heap}
theorem sum_take {xs : List Rat} {i : Nat} {x : Rat} (h : xs[i]? = some x) : (xs.take (i + 1)).sum = (xs.take i).sum + x := by
  rw [← take_snoc h, List.sum_append]
  simp [Rat.add_zero]
theorem sum_QB {xs : List Rat} (h : ∀ x ∈ xs, QB 130 x) : ∀ i, i ≤ xs.length → QB (1 + 131 * i) (xs.take i).sum
  | 0, _ => by rw [List.take_zero]; exact ⟨by unfold Bd; decide, by decide⟩
  | i + 1, hi => by
    have hr : xs[i]? = some xs[i] := List.getElem?_eq_getElem (by omega)
    rw [sum_take hr]
    exact ((sum_QB h i (by omega)).add (h _ (List.mem_of_getElem? hr))).mono (by omega)
end
theorem imms_frQ (m : FM Rat) : D.imms (fmV frQ m) = true := by
  unfold fmV
  induction m with
  | nil => rfl
  | cons p m ih => rw [List.map_cons]; show (D.imm (frQ p.2) && _) = true; rw [ih]; rfl
abbrev ZeroOk (P : Program) (w : World) (K : PySem.W.Frag) (mg : Str → Option Value) (base : Heap) : Prop := ∀ {X : Cx} {N : List Str} {sc : Scope} {k : Nat}, XIs X P w K mg base N sc k → sc.names.lookup ("ZERO" : Str) = some .globalImplicit → Gc X "ZERO" (frQ 0)
/-- the prices of the rights' places -/
structure PrOk (rs : List Rg) (pr : FM Rat) : Prop where
  nd : pr.ks.Nodup
  ok : pr.All (QB 40)
  src : ∀ r ∈ rs, r.src ∈ pr.ks
  snk : ∀ r ∈ rs, r.snk ∈ pr.ks
def due1 (pr : FM Rat) (r : Rg) : Rat := r.amt * (val pr r.snk - val pr r.src)
def duS (pr : FM Rat) (m : FM Rat) (r : Rg) : FM Rat := m.put r.name (due1 pr r)
def duF (rs : List Rg) (pr : FM Rat) : FM Rat := rs.foldl (duS pr) []
theorem PrOk.get {rs : List Rg} {pr : FM Rat} (h : PrOk rs pr) {y : Str} (hy : y ∈ pr.ks) : QB 40 (val pr y) ∧ lk ((fmK pr).zip ((fmV frQ pr).map E.d)) (.inr y) = some (.d (frQ (val pr y))) := by
  obtain ⟨q, hq⟩ := Option.isSome_iff_exists.mp (FM.get_in.mpr hy)
  have e : val pr y = q := by unfold val; rw [hq]; rfl
  rw [e, fm_lk, hq]
  exact ⟨h.ok.get hq, rfl⟩
theorem PrOk.due {rs : List Rg} {pr : FM Rat} (h : PrOk rs pr) (hr : RgOk rs) {r : Rg} (hm : r ∈ rs) : QB 130 (due1 pr r) :=
  ((hr.ok r hm).mul ((h.get (h.snk r hm)).1.sub (h.get (h.src r hm)).1)).mono (by decide)
theorem duF_take {rs : List Rg} {pr : FM Rat} {i : Nat} {r : Rg} (h : rs[i]? = some r) : duF (rs.take (i + 1)) pr = (duF (rs.take i) pr).put r.name (due1 pr r) := foldl_take h
theorem duF_ok {rs : List Rg} {pr : FM Rat} (h : PrOk rs pr) (hr : RgOk rs) : ∀ i, i ≤ rs.length → (duF (rs.take i) pr).ks.Nodup ∧ (duF (rs.take i) pr).All (QB 130) ∧ (duF (rs.take i) pr).length ≤ i
  | 0, _ => ⟨List.nodup_nil, fun p hp => (by cases hp), Nat.le_refl _⟩
  | i + 1, hi => by
    obtain ⟨h1, h2, h3⟩ := duF_ok h hr i (by omega)
    have hx : rs[i]? = some rs[i] := List.getElem?_eq_getElem (by omega)
    rw [duF_take hx]
    exact ⟨FM.put_nd h1, h2.put (h.due hr (List.mem_of_getElem? hx)), Nat.le_trans FM.put_len (by omega)⟩
def R_dues : RP := fun ds post => ∃ (rs : List Rg) (pr : FM Rat), ds = [rgsD rs, fmD frQ pr] ∧ RgOk rs ∧ PrOk rs pr ∧ post (fmR (duF rs pr))
theorem ap_dues {rs : List Rg} {pr : FM Rat} {post : Rt → Prop} (h1 : RgOk rs) (h2 : PrOk rs pr) (h : post (fmR (duF rs pr))) : R_dues [rgsD rs, fmD frQ pr] post := ⟨rs, pr, rfl, h1, h2, h⟩
theorem mo_dues : MonoP R_dues := fun ds p q m ⟨a, b, c, d, e, h⟩ => ⟨a, b, c, d, e, m _ h⟩
section
variable {P : Program} {w : World} {K : PySem.W.Frag} {mg : Str → Option Value} {base : Heap}
theorem ok_dues {f : Addr} {fd : FuncData} (c_times : CaP P w K mg base "times" 3 R_mul) (c_less : CaP P w K mg base "less" 3 R_less)
    (Fu : Fun K "dues" "dues" s_dues f fd) : FnOk P w K mg base CX0 4 f fd ["rights", "prices"] (spP K R_dues) := by
  refine fn_P Fu sc_dues (fun ds post h => ?_) fun X F ds post hX hfn hH h => ?_
  · obtain ⟨_, _, rfl, _⟩ := h
    rfl
  · obtain ⟨rs, pr, rfl, hr, hp, k⟩ := h
    have bx := hX.bx
    have r0 := hX.nmR (i := 0) (x := "rights") rfl (by first | exact Or.inl (by decide +kernel) | exact Or.inr (Or.inl (by decide +kernel))); have w0 := hX.nmW (i := 0) (x := "rights") rfl (by decide +kernel); have r1 := hX.nmR (i := 1) (x := "prices") rfl (by first | exact Or.inl (by decide +kernel) | exact Or.inr (Or.inl (by decide +kernel))); have w1 := hX.nmW (i := 1) (x := "prices") rfl (by decide +kernel); have r2 := hX.nmR (i := 2) (x := "found") rfl (by first | exact Or.inl (by decide +kernel) | exact Or.inr (Or.inl (by decide +kernel))); have w2 := hX.nmW (i := 2) (x := "found") rfl (by decide +kernel); have r3 := hX.nmR (i := 3) (x := "name") rfl (by first | exact Or.inl (by decide +kernel) | exact Or.inr (Or.inl (by decide +kernel))); have w3 := hX.nmW (i := 3) (x := "name") rfl (by decide +kernel); have r4 := hX.nmR (i := 4) (x := "_") rfl (by first | exact Or.inl (by decide +kernel) | exact Or.inr (Or.inl (by decide +kernel))); have w4 := hX.nmW (i := 4) (x := "_") rfl (by decide +kernel); have r5 := hX.nmR (i := 5) (x := "source") rfl (by first | exact Or.inl (by decide +kernel) | exact Or.inr (Or.inl (by decide +kernel))); have w5 := hX.nmW (i := 5) (x := "source") rfl (by decide +kernel); have r6 := hX.nmR (i := 6) (x := "sink") rfl (by first | exact Or.inl (by decide +kernel) | exact Or.inr (Or.inl (by decide +kernel))); have w6 := hX.nmW (i := 6) (x := "sink") rfl (by decide +kernel); have r7 := hX.nmR (i := 7) (x := "amount") rfl (by first | exact Or.inl (by decide +kernel) | exact Or.inr (Or.inl (by decide +kernel))); have w7 := hX.nmW (i := 7) (x := "amount") rfl (by decide +kernel); have d_times := c_times.at hX (by decide +kernel); have d_less := c_less.at hX (by decide +kernel)
    conv => (arg 3; whnf)
    refine jss_set w2 (je_ownD (jn_dict0 ⟨[], rfl, ?_⟩)) (by rfl)
    refine jss_for bx (fun i s => ∃ o1 o2 o3 o4 o5, s = ⟨[some (.d (rgsD rs)), some (.d (fmD frQ pr)), some (.r 0), o1, o2, o3, o4, o5], [.nd (.dct (fmK (duF (rs.take i) pr))) ((fmV frQ (duF (rs.take i) pr)).map .d)], 0⟩) (ji_lst ?_) (by intro _; rfl)
    walk_at "go"
    refine ⟨⟨_, _, _, _, _, rfl⟩, ?_, ?_⟩
    · rintro i v s' hi ⟨d, hd, rfl⟩ ⟨o1, o2, o3, o4, o5, rfl⟩
      rw [List.getElem?_map] at hd
      have hi2 : i < rs.length := by simpa using hi
      have hx : rs[i]? = some rs[i] := List.getElem?_eq_getElem hi2
      have hsz := hr.sz
      rw [hx] at hd
      cases hd
      have hm := List.mem_of_getElem? hx
      obtain ⟨a1, a2⟩ := hp.get (hp.src _ hm)
      obtain ⟨b1, b2⟩ := hp.get (hp.snk _ hm)
      have hln := (duF_ok hp hr i (by omega)).2.2
      walk_at "go"
      refine jx_dct bx.hu rfl rfl b2 ?_
      walk_at "go"
      refine jx_dct bx.hu rfl rfl a2 ?_
      walk_at "go"
      refine ap_op 40 40 b1 a1 (by decide) (by decide) (by decide) trivial ?_
      walk_at "go"
      refine ap_op 40 81 (hr.ok _ hm) (b1.sub a1) (by decide) (by decide) (by decide) trivial ?_
      walk_at "go"
      refine .inr ⟨_, _, _, _, rfl, rfl, rfl, Nat.zero_le _, ?_, ?_⟩
      · rw [List.length_map, fmV_len, sizeLine_eq]; omega
      rw [fm_dpV (f := frQ), fm_dpK (m := duF (rs.take i) pr) (k := rs[i].name) (v := due1 pr rs[i])]
      walk_at "go"
      exact ⟨_, _, _, _, _, by rw [duF_take hx]; rfl⟩
    · rintro s' ⟨o1, o2, o3, o4, o5, rfl⟩
      rw [List.length_map, List.take_length]
      walk_at "go"
      exact ⟨_, _, fmV frQ (duF rs pr), rfl, dsOf_map _, Nat.zero_le _, k⟩
end
def R_name : RC1 := fun kd cds ds post => kd = .lst ∧ PoolD cds ∧ ds = [] ∧ ∀ (z : Str) cds', z.length ≤ 12 → PoolD cds' → post (.dat (.str z)) .lst cds'
theorem ap_name {cds : List D} {post : Rt → Kd → List D → Prop} (hp : PoolD cds) (h : ∀ (z : Str) cds', z.length ≤ 12 → PoolD cds' → post (.dat (.str z)) .lst cds') : R_name .lst cds [] post := ⟨rfl, hp, rfl, h⟩
theorem mo_name : MonoC R_name := fun kd cds ds p q m ⟨a, b, c, h⟩ => ⟨a, b, c, fun v r h1 h2 => m _ _ _ (h v r h1 h2)⟩
theorem tidy_pool (cds : List D) (sl : List (Option E)) (h : sl.all (E.ltB 1) = true) : TidyB ⟨sl, [.nd .lst (cds.map .d)], 1⟩ = true := by
  unfold TidyB
  simp only [Bool.and_eq_true, decide_eq_true_eq]
  refine ⟨⟨h, ?_⟩, Nat.le_refl _⟩
  show ((cds.map E.d).all (E.lt 1) && true) = true
  rw [lt_ds]; rfl
theorem join1 (ts : List Str) (h : ∀ x ∈ ts, x.length = 1) : (ts.map (·.length)).sum = ts.length := by
  induction ts with
  | nil => rfl
  | cons t ts ih =>
    rw [List.map_cons, List.sum_cons, h t List.mem_cons_self, ih fun x hx => h x (List.mem_cons_of_mem _ hx), List.length_cons]
    omega
theorem joinL_len (ps : List (List Nat)) : (TL.joinL [] ps).length = (ps.map List.length).sum := by
  induction ps with
  | nil => rfl
  | cons p ps ih =>
    cases ps with
    | nil => show p.length = p.length + 0; omega
    | cons q r =>
      show (p ++ ([] ++ TL.joinL [] (q :: r))).length = _
      rw [List.nil_append, List.length_append, ih]; rfl
theorem join_len (ts : List Str) (h : ∀ x ∈ ts, x.length = 1) : (Txt.join "" ts).length = ts.length := by
  rw [TL.join_eq, TL.len_tl, TL.tl_join]
  have : TL.tl ("" : Str) = [] := by decide +kernel
  rw [this, joinL_len, List.map_map]
  have e : (List.length ∘ TL.tl) = fun t : Str => t.length := by funext t; exact (TL.len_tl t).symm
  rw [e]
  exact join1 ts h
section
variable {P : Program} {w : World} {K : PySem.W.Frag} {mg : Str → Option Value} {base : Heap}
theorem ok_law_name {f : Addr} {fd : FuncData} (C : Bs2 mg) (c_law_draw : CaC P w K mg base "_law_draw" 3 R_draw) (Fu : Fun K "_law_name" "_law_name" s_law_name f fd) : FnOk P w K mg base CX0 4 f fd ["pool"] (spC K R_name) := by
  refine fn_C Fu sc_law_name (fun kd cds ds post h => ?_) fun X F kd cds ds post hX hfn hH h => ?_
  · obtain ⟨_, _, rfl, _⟩ := h
    rfl
  · obtain ⟨rfl, hp, rfl, k⟩ := h
    have bx := hX.bx
    have r0 := hX.nmR (i := 0) (x := "pool") rfl (by first | exact Or.inl (by decide +kernel) | exact Or.inr (Or.inl (by decide +kernel))); have w0 := hX.nmC (i := 0) (x := "pool") rfl (by decide +kernel) (hfn _); have r1 := hX.nmR (i := 1) (x := "way") rfl (by first | exact Or.inl (by decide +kernel) | exact Or.inr (Or.inl (by decide +kernel))); have w1 := hX.nmW (i := 1) (x := "way") rfl (by decide +kernel); have r2 := hX.nmR (i := 2) (x := "letters") rfl (by first | exact Or.inl (by decide +kernel) | exact Or.inr (Or.inl (by decide +kernel))); have w2 := hX.nmC (i := 2) (x := "letters") rfl (by decide +kernel) (hfn _); have r3 := hX.nmR (i := 3) (x := "size") rfl (by first | exact Or.inl (by decide +kernel) | exact Or.inr (Or.inl (by decide +kernel))); have w3 := hX.nmW (i := 3) (x := "size") rfl (by decide +kernel); have r4 := hX.nmR (i := 4) (x := "place") rfl (by first | exact Or.inl (by decide +kernel) | exact Or.inr (Or.inl (by decide +kernel))); have w4 := hX.nmW (i := 4) (x := "place") rfl (by decide +kernel); have d_law_draw := c_law_draw.at hX (by decide +kernel); have g_range := hX.glb (x := "range") (by decide +kernel) C.b_range
    conv => (arg 3; whnf)
    have l4 : (Str.ofString "abcd").cps.toList.length = 4 := by decide +kernel
    have l3 : (Str.ofString "mno").cps.toList.length = 3 := by decide +kernel
    have l36 : (Str.ofString "abcdefghijklmnopqrstuvwxyz0123456789").cps.toList.length = 36 := by decide +kernel
    have lm : ∀ n, (repS "m" n).length = n := fun n => by rw [repS_len]; show n * 1 = n; omega
    have l1 : ∀ cp : Nat, (⟨#[cp]⟩ : Str).length = 1 := fun _ => rfl
    walk_at "go"
    refine ap_draw hp (lim_of (by decide) (by decide)) fun v cds1 v0 v1 hp1 => ?_
    refine rtΦ_dat ?_
    walk_at "go"
    · obtain ⟨cp, x1, x2⟩ := atI_in (xs := (Str.ofString "abcd").cps.toList) v0 (by omega)
      refine jx_str (by decide +kernel) x1 ?_
      exact ⟨.lst, _, _, rfl, dsOf_map _, k _ _ (by show 1 ≤ 12; decide) hp1⟩
    · refine ap_draw hp1 (lim_of (by decide) (by decide)) fun sz cds2 s0 s1 hp2 => ?_
      refine rtΦ_dat ?_
      walk_at "go"
      · refine ap_draw hp2 (lim_of (by omega) (by omega)) fun pl cds3 p0 p1 hp3 => ?_
        refine rtΦ_dat ?_
        walk_at "go"
        refine ap_draw hp3 (lim_of (by decide) (by decide)) fun u cds4 u0 u1 hp4 => ?_
        refine rtΦ_dat ?_
        obtain ⟨cp, x1, x2⟩ := atI_in (xs := (Str.ofString "mno").cps.toList) u0 (by omega)
        refine jx_str (by decide +kernel) x1 ?_
        have z1 : (repS "m" pl.toNat).length + (⟨#[cp]⟩ : Str).length ≤ sizeLine := by rw [lm, l1, sizeLine_eq]; omega
        have z2 : (repS "m" pl.toNat ++ (⟨#[cp]⟩ : Str)).length + (repS "m" (1 + sz - 1 - pl).toNat).length ≤ sizeLine := by rw [Str.length_append, lm, l1, lm, sizeLine_eq]; omega
        walk_at "go"
        exact ⟨.lst, _, _, rfl, dsOf_map _, k _ _ (by rw [Str.length_append, Str.length_append, lm, l1, lm]; omega) hp4⟩
      · refine ap_draw hp2 (lim_of (by decide) (by decide)) fun u cds3 u0 u1 hp3 => ?_
        refine rtΦ_dat ?_
        obtain ⟨cp, x1, x2⟩ := atI_in (xs := (Str.ofString "abcdefghijklmnopqrstuvwxyz0123456789").cps.toList) u0 (by omega)
        refine jx_str (by decide +kernel) x1 ?_
        refine je_join (je_str ⟨_, rfl, ?_⟩) (by intro _ _; rfl) (by rfl) (by rfl)
        refine je_lcF bx (blk_ok hX (own := [("place", 4)]) (by decide +kernel)) (j := 4) (by decide) (fun Y hY => (hY.is hX).nmW rfl (by decide +kernel)) (ji_range1 g_range ?_) (by intro _; rfl)
        walk_at "go"
        refine ⟨by omega, by omega, fun i ds t => ∃ cds ts, PoolD cds ∧ ds = ts.map D.str ∧ (∀ x ∈ ts, x.length = 1) ∧ t = ⟨[some (.r 0), some (.d (.int v)), some (.d (.str "abcdefghijklmnopqrstuvwxyz0123456789")), some (.d (.int (1 + sz))), none], [.nd .lst (cds.map .d)], 1⟩, ⟨cds3, [], hp3, rfl, fun x hx => (by cases hx), rfl⟩, ?_, ?_⟩
        · rintro i e ds t hi he hdl ⟨cds, ts, hp, rfl, h1, rfl⟩
          refine ⟨rfl, rfl, fun Y hY => ?_⟩
          have hYX := hY.is hX; have bY := hYX.bx; have r2Y := hYX.nmR (i := 2) (x := "letters") rfl (by first | exact Or.inl (by decide +kernel) | exact Or.inr (Or.inl (by decide +kernel)) | exact Or.inr (Or.inr (by decide +kernel))); have e_law_draw := c_law_draw.at hYX (by decide +kernel); have r0Y := hYX.nmR (i := 0) (x := "pool") rfl (by first | exact Or.inl (by decide +kernel) | exact Or.inr (Or.inl (by decide +kernel)) | exact Or.inr (Or.inr (by decide +kernel)))
          walk_at "go"
          refine ap_draw hp (lim_of (by decide) (by decide)) fun u cds4 u0 u1 hp4 => ?_
          refine rtΦ_dat ?_
          obtain ⟨cq, y1, y2⟩ := atI_in (xs := (Str.ofString "abcdefghijklmnopqrstuvwxyz0123456789").cps.toList) u0 (by omega)
          refine jx_str (by decide +kernel) y1 ?_
          refine ⟨_, ⟨[some (.r 0), some (.d (.int v)), some (.d (.str "abcdefghijklmnopqrstuvwxyz0123456789")), some (.d (.int (1 + sz))), none], [.nd .lst (cds4.map .d)], 1⟩, rfl, rfl, rfl, rfl, cds4, ts ++ [⟨#[cq]⟩], hp4, by simp, fun x hx => ?_, rfl⟩
          rcases List.mem_append.mp hx with hx | hx
          · exact h1 x hx
          · have : x = ⟨#[cq]⟩ := by simpa using hx
            subst this; rfl
        · rintro ds t hdl ⟨cds, ts, hp, rfl, h1, rfl⟩
          have hl : ts.length = (1 + sz - 1).toNat := by rw [← hdl, List.length_map]
          have hj : (Txt.join "" ts).length ≤ 11 := by rw [join_len ts h1]; omega
          refine ⟨rfl, Nat.le_refl _, tidy_pool _ _ rfl, _, ts, rfl, .inl rfl, by rw [join1 ts h1]; show _ + _ * 0 ≤ _; omega, ?_⟩
          have z1 : (⟨#[cp]⟩ : Str).length + (Txt.join "" ts).length ≤ sizeLine := by rw [l1, sizeLine_eq]; omega
          walk_at "go"
          exact ⟨.lst, _, _, rfl, dsOf_map _, k _ _ (by rw [Str.length_append, l1]; omega) hp⟩
end
theorem pigeon {α : Type} [DecidableEq α] : ∀ {l t : List α}, l.Nodup → (∀ x ∈ l, x ∈ t) → l.length ≤ t.length
  | [], _, _, _ => Nat.zero_le _
  | a :: l, t, nd, h => by
    have ha := h a List.mem_cons_self
    have ih := pigeon (l := l) (t := t.erase a) (List.nodup_cons.mp nd).2 fun x hx => by
      refine (List.mem_erase_of_ne ?_).mpr (h x (List.mem_cons_of_mem _ hx))
      intro e; subst e; exact (List.nodup_cons.mp nd).1 hx
    rw [List.length_erase_of_mem ha] at ih
    have : 0 < t.length := List.length_pos_of_mem ha
    rw [List.length_cons]
    omega
theorem cut9 (z : Str) : (cutS z none (some 9)).length ≤ 9 := by
  unfold cutS
  show (List.toArray _).size ≤ 9
  rw [List.size_toArray, List.length_take]
  have h1 : HT.sIx z.length z.length (some 9) = min 9 z.length := HT.sIx_nat _ _ 9
  rw [h1]
  omega
def numS (k : Nat) : Str := Str.ofString (toString (k : Int))
theorem numS_ok : ((List.range 100).map numS).Nodup ∧ ∀ k < 100, (numS k).length ≤ 2 := by decide +kernel
theorem app_inj {a x y : Str} (h : a ++ x = a ++ y) : x = y := by
  have h1 : (a ++ x).cps.toList = (a ++ y).cps.toList := by rw [h]
  have e1 : (a ++ x).cps.toList = a.cps.toList ++ x.cps.toList := Array.toList_append
  have e2 : (a ++ y).cps.toList = a.cps.toList ++ y.cps.toList := Array.toList_append
  rw [e1, e2] at h1
  exact TL.ext_tl (List.append_cancel_left h1)
theorem fresh_end {a : Str} {ts : List Str} (hl : ts.length ≤ 30) (h : ∀ k, k < 100 → a ++ numS k ∈ ts) : False := by
  have nd : ((List.range 100).map fun k => a ++ numS k).Nodup := by
    have e : ((List.range 100).map fun k => a ++ numS k) = ((List.range 100).map numS).map (a ++ ·) := by rw [List.map_map]; rfl
    rw [e]
    refine List.Pairwise.map _ (fun x y hxy z => hxy (app_inj z)) numS_ok.1
  have := pigeon nd fun x hx => by
    obtain ⟨k, hk, rfl⟩ := List.mem_map.mp hx
    exact h k (List.mem_range.mp hk)
  rw [List.length_map, List.length_range] at this
  omega
def R_fresh : RCs := fun os ds post => ∃ (cds : List D) (ts : List Str), os = [(.lst, cds), (.lst, ts.map D.str)] ∧ ds = [] ∧ PoolD cds ∧ ts.length ≤ 30 ∧ ∀ (z : Str) cds', z ∉ ts → z.length ≤ 12 → PoolD cds' → post (.dat (.str z)) [(.lst, cds'), (.lst, ts.map D.str)]
theorem ap_fresh {cds : List D} {ts : List Str} {post : Rt → List (Kd × List D) → Prop} (h1 : PoolD cds) (h2 : ts.length ≤ 30) (h : ∀ (z : Str) cds', z ∉ ts → z.length ≤ 12 → PoolD cds' → post (.dat (.str z)) [(.lst, cds'), (.lst, ts.map D.str)]) : R_fresh [(.lst, cds), (.lst, ts.map D.str)] [] post := ⟨cds, ts, rfl, rfl, h1, h2, h⟩
theorem mo_fresh : MonoN R_fresh := fun os ds p q m ⟨a, b, c, d, e, f, h⟩ => ⟨a, b, c, d, e, f, fun z r h1 h2 h3 => m _ _ (h z r h1 h2 h3)⟩
section
variable {P : Program} {w : World} {K : PySem.W.Frag} {mg : Str → Option Value} {base : Heap}
theorem ok_law_fresh {f : Addr} {fd : FuncData} (C : Bs2 mg) (c_law_name : CaC P w K mg base "_law_name" 4 R_name) (Fu : Fun K "_law_fresh" "_law_fresh" s_law_fresh f fd) : FnOk P w K mg base CX0 5 f fd ["pool", "taken"] (spS K (RSn R_fresh)) := by
  refine fn_N Fu sc_law_fresh (fun os ds post h => ?_) fun X F os ds post hX hfn hH h => ?_
  · obtain ⟨_, _, rfl, rfl, _⟩ := h
    rfl
  · obtain ⟨cds, ts, rfl, rfl, hp, hl, k⟩ := h
    have bx := hX.bx
    have r0 := hX.nmR (i := 0) (x := "pool") rfl (by first | exact Or.inl (by decide +kernel) | exact Or.inr (Or.inl (by decide +kernel))); have w0 := hX.nmW (i := 0) (x := "pool") rfl (by decide +kernel); have r1 := hX.nmR (i := 1) (x := "taken") rfl (by first | exact Or.inl (by decide +kernel) | exact Or.inr (Or.inl (by decide +kernel))); have w1 := hX.nmW (i := 1) (x := "taken") rfl (by decide +kernel); have r2 := hX.nmR (i := 2) (x := "name") rfl (by first | exact Or.inl (by decide +kernel) | exact Or.inr (Or.inl (by decide +kernel))); have w2 := hX.nmW (i := 2) (x := "name") rfl (by decide +kernel); have r3 := hX.nmR (i := 3) (x := "k") rfl (by first | exact Or.inl (by decide +kernel) | exact Or.inr (Or.inl (by decide +kernel))); have w3 := hX.nmW (i := 3) (x := "k") rfl (by decide +kernel); have d_law_name := c_law_name.at hX (by decide +kernel); have g_range := hX.glb (x := "range") (by decide +kernel) C.b_range; have g_str := hX.glb (x := "str") (by decide +kernel) C.b_str
    conv => (arg 3; whnf)
    have fin : ∀ {z : Str} {cds' : List D} {sl : List (Option E)}, z ∉ ts → z.length ≤ 12 → PoolD cds' → ∃ os', Owns ⟨sl, [.nd .lst (cds'.map .d), .nd .lst ((ts.map D.str).map .d)], 2⟩ 0 os' ∧ os'.length = 2 ∧ RtN 2 (fun r => post r os') (.d (.str z)) ⟨sl, [.nd .lst (cds'.map .d), .nd .lst ((ts.map D.str).map .d)], 2⟩ :=
      fun h1 h2 h3 => ⟨[(.lst, _), (.lst, ts.map D.str)], ⟨⟨_, rfl, dsOf_map _⟩, ⟨_, rfl, dsOf_map _⟩, trivial⟩, rfl, k _ _ h1 h2 h3⟩
    walk_at "go"
    refine ap_name hp fun z cds1 zl hp1 => ?_
    walk_at "go"
    · exact fin (by assumption) zl hp1
    · have z9 : (cutS z none (some 9)).length ≤ 9 := cut9 z
      have zz : z.length ≤ sizeLine := by rw [sizeLine_eq]; omega
      refine jss_for bx (fun i s => ∃ o, (∀ k, k < i → cutS z none (some 9) ++ numS k ∈ ts) ∧ s = ⟨[some (.r 0), some (.r 1), some (.d (.str z)), o], [.nd .lst (cds1.map .d), .nd .lst ((ts.map D.str).map .d)], 2⟩) (ji_range1 g_range ?_) (by intro _; rfl)
      walk_at "go"
      refine ⟨by decide, ⟨_, fun k hk => absurd hk (Nat.not_lt_zero _), rfl⟩, ?_, ?_⟩
      · rintro i v s' hi hv ⟨o, hin, rfl⟩
        obtain rfl : v = _ := hv
        have hi : i < 100 := hi
        have zi : (0 : Int) + i = i := Int.zero_add _
        rw [zi]
        have n2 := numS_ok.2 i hi
        have z3 : (cutS z none (some 9)).length + (Str.ofString (toString (i : Int))).length ≤ sizeLine := by
          show _ + (numS i).length ≤ _
          rw [sizeLine_eq]; omega
        have lg : (i : Int).natAbs.log2 < 1920 := PySem.Flt.log2_lt_of (k := 1920) (by decide) (Nat.lt_of_lt_of_le (show (i : Int).natAbs < 2 ^ 10 by omega) (Nat.pow_le_pow_right (by decide) (by decide)))
        walk_at "go"
        · rename_i hb
          exact fin hb (by rw [Str.length_append]; show _ + (numS i).length ≤ 12; omega) hp1
        · rename_i hb
          refine ⟨_, fun k hk => ?_, rfl⟩
          by_cases hki : k < i
          · exact hin k hki
          · have : k = i := by omega
            subst this
            exact hb
      · rintro s' ⟨o, hin, rfl⟩
        exact (fresh_end hl hin).elim
end
def R_places : RC1 := fun kd cds ds post => kd = .lst ∧ PoolD cds ∧ ∃ m : Int, ds = [.int m] ∧ 0 ≤ m ∧ m ≤ 20 ∧ ∀ (ts : List Str) cds', ts.Nodup → ts.length = m.toNat → PoolD cds' → post (.new .lst (ts.map D.str)) .lst cds'
theorem ap_places {cds : List D} {m : Int} {post : Rt → Kd → List D → Prop} (hp : PoolD cds) (h0 : 0 ≤ m) (h1 : m ≤ 20) (h : ∀ (ts : List Str) cds', ts.Nodup → ts.length = m.toNat → PoolD cds' → post (.new .lst (ts.map D.str)) .lst cds') : R_places .lst cds [.int m] post := ⟨rfl, hp, m, rfl, h0, h1, h⟩
theorem mo_places : MonoC R_places := fun kd cds ds p q m ⟨a, b, n, c, d, e, h⟩ => ⟨a, b, n, c, d, e, fun v r h1 h2 h3 => m _ _ _ (h v r h1 h2 h3)⟩
section
variable {P : Program} {w : World} {K : PySem.W.Frag} {mg : Str → Option Value} {base : Heap}
theorem ok_law_places {f : Addr} {fd : FuncData} (C : Bs2 mg) (c_law_fresh : CaS P w K mg base "_law_fresh" 5 (RSn R_fresh)) (Fu : Fun K "_law_places" "_law_places" s_law_places f fd) : FnOk P w K mg base CX0 6 f fd ["pool", "many"] (spC K R_places) := by
  refine fn_C Fu sc_law_places (fun kd cds ds post h => ?_) fun X F kd cds ds post hX hfn hH h => ?_
  · obtain ⟨_, _, m, rfl, _⟩ := h
    rfl
  · obtain ⟨rfl, hp, m, rfl, m0, m1, k⟩ := h
    have bx := hX.bx
    have mF := mo_fresh
    have r0 := hX.nmR (i := 0) (x := "pool") rfl (by first | exact Or.inl (by decide +kernel) | exact Or.inr (Or.inl (by decide +kernel))); have w0 := hX.nmW (i := 0) (x := "pool") rfl (by decide +kernel); have r1 := hX.nmR (i := 1) (x := "many") rfl (by first | exact Or.inl (by decide +kernel) | exact Or.inr (Or.inl (by decide +kernel))); have w1 := hX.nmW (i := 1) (x := "many") rfl (by decide +kernel); have r2 := hX.nmR (i := 2) (x := "places") rfl (by first | exact Or.inl (by decide +kernel) | exact Or.inr (Or.inl (by decide +kernel))); have w2 := hX.nmW (i := 2) (x := "places") rfl (by decide +kernel); have r3 := hX.nmR (i := 3) (x := "k") rfl (by first | exact Or.inl (by decide +kernel) | exact Or.inr (Or.inl (by decide +kernel))); have w3 := hX.nmW (i := 3) (x := "k") rfl (by decide +kernel); have g_range := hX.glb (x := "range") (by decide +kernel) C.b_range; have d_law_fresh := c_law_fresh.at hX (by decide +kernel)
    conv => (arg 3; whnf)
    refine jss_set w2 (je_own (jn_lst (ja_nil ⟨by decide, rfl, ?_⟩))) (by rfl)
    refine jss_for bx (fun i s => ∃ (cds : List D) (ts : List Str) (o : Option E), PoolD cds ∧ ts.Nodup ∧ ts.length = i ∧ s = ⟨[some (.r 0), some (.d (.int m)), some (.r 1), o], [.nd .lst (cds.map .d), .nd .lst ((ts.map D.str).map .d)], 1⟩) (ji_range1 g_range ?_) (by intro _; rfl)
    walk_at "go"
    refine ⟨by omega, ⟨cds, [], _, hp, List.nodup_nil, rfl, rfl⟩, ?_, ?_⟩
    · rintro i v s' hi hv ⟨cds, ts, o, hp, hn, hl, rfl⟩
      obtain rfl : v = _ := hv
      walk_at "st"; walk_at "st"
      refine je_append ?_
      walk_at "go"
      refine ⟨_, _, rfl, rfl, ?_⟩
      walk_at "go"
      refine on_r rfl (dsOf_map _) (on_r rfl (dsOf_map _) (on_ds rfl ⟨by decide, ap_fresh hp (by omega) fun z cds' hz zl hp' => ?_⟩))
      refine rtΦ_dat ⟨_, rfl, ?_, ?_⟩
      · rw [sizeLine_eq]; simp; omega
      walk_at "go"
      refine ⟨cds', ts ++ [z], _, hp', ?_, by simp [hl], by simp; rfl⟩
      rw [List.nodup_append]
      exact ⟨hn, by simp, fun a ha b hb e => by
        have : b = z := by simpa using hb
        subst this; subst e; exact hz ha⟩
    · rintro s' ⟨cds, ts, o, hp, hn, hl, rfl⟩
      walk_at "go"
      exact ⟨.lst, _, _, rfl, dsOf_map _, .lst, _, ts.map D.str, rfl, dsOf_map _, Nat.le_refl 1, k ts _ hn hl hp⟩
end
theorem frQ_int (n : Int) : D.nd .tup [.int n, .int 1] = frQ (n : Rat) := by
  unfold frQ
  rw [Rat.num_intCast, Rat.den_intCast]; rfl
theorem QB_int {k : Nat} {n : Int} (h : Bd k n) (h0 : 0 < k) : QB k (n : Rat) := ⟨by rw [Rat.num_intCast]; exact h, by rw [Rat.den_intCast]; exact Nat.one_lt_two_pow (by omega)⟩
/-! sizes over one denominator -/
def Lz : Int := 5342931457063200
def cA : Rat := (2520 : Rat)⁻¹
def cL : Rat := (Lz : Rat)⁻¹
/-- an amount: n / 2520 -/
def AmN (x : Rat) : Prop := ∃ n : Int, x = (n : Rat) * cA ∧ n.natAbs < 2 ^ 38
/-- a price: n / lcm(1..40) -/
def PrN (x : Rat) : Prop := ∃ n : Int, x = (n : Rat) * cL ∧ n.natAbs < 2 ^ 64
theorem div_c {a b c d : Int} (hb : b ≠ 0) (e : c = b * d) (hd : d ≠ 0) : Rat.divInt a b = ((a * d : Int) : Rat) * ((c : Rat))⁻¹ := by
  rw [← Rat.divInt_mul_right hd, Rat.divInt_eq_div, Rat.div_def, e]
theorem div40 : ∀ b : Nat, b < 40 → (Lz % ((b + 1 : Nat) : Int) = 0) := by decide +kernel
theorem PrN.div {a b : Int} (ha : a.natAbs < 2 ^ 11) (h0 : 1 ≤ b) (h1 : b ≤ 40) : PrN (Rat.divInt a b) := by
  have e : Lz % b = 0 := by
    have := div40 (b.toNat - 1) (by omega)
    have q : (((b.toNat - 1) + 1 : Nat) : Int) = b := by omega
    rw [q] at this
    exact this
  have e2 : Lz = b * (Lz / b) := by have := Int.mul_ediv_add_emod Lz b; omega
  have hd : Lz / b ≠ 0 := fun z => by rw [z, Int.mul_zero] at e2; revert e2; decide
  refine ⟨a * (Lz / b), div_c (by omega) e2 hd, ?_⟩
  rw [Int.natAbs_mul]
  have h3 : (Lz / b).natAbs ≤ Lz.natAbs := Int.natAbs_ediv_le_natAbs _ _
  have h4 : Lz.natAbs < 2 ^ 53 := by decide
  calc a.natAbs * (Lz / b).natAbs ≤ a.natAbs * Lz.natAbs := Nat.mul_le_mul_left _ h3
    _ < 2 ^ 11 * 2 ^ 53 := Nat.mul_lt_mul'' ha h4
    _ = 2 ^ 64 := by decide
theorem PrN.int {a : Int} (ha : a.natAbs < 2 ^ 11) : PrN (a : Rat) := by
  have := PrN.div ha (Int.le_refl 1) (by decide)
  rw [Rat.divInt_eq_div] at this
  have e : ((1 : Int) : Rat) = 1 := rfl
  rw [e, Rat.div_def] at this
  have e2 : (1 : Rat)⁻¹ = 1 := by decide +kernel
  rw [e2, Rat.mul_one] at this
  exact this
theorem div9 : ∀ b : Nat, b < 9 → ((2520 : Int) % ((b + 1 : Nat) : Int) = 0) := by decide +kernel
theorem AmN.div {a b : Int} (ha : a.natAbs < 100000000) (h0 : 1 ≤ b) (h1 : b ≤ 9) : AmN (Rat.divInt a b) := by
  have e : (2520 : Int) % b = 0 := by
    have := div9 (b.toNat - 1) (by omega)
    have q : (((b.toNat - 1) + 1 : Nat) : Int) = b := by omega
    rw [q] at this
    exact this
  have e2 : (2520 : Int) = b * (2520 / b) := by have := Int.mul_ediv_add_emod 2520 b; omega
  have hd : (2520 : Int) / b ≠ 0 := fun z => by rw [z, Int.mul_zero] at e2; revert e2; decide
  refine ⟨a * (2520 / b), div_c (by omega) e2 hd, ?_⟩
  rw [Int.natAbs_mul]
  have h3 : ((2520 : Int) / b).natAbs ≤ 2520 := Int.natAbs_ediv_le_natAbs _ _
  calc a.natAbs * ((2520 : Int) / b).natAbs ≤ a.natAbs * 2520 := Nat.mul_le_mul_left _ h3
    _ < 100000000 * 2520 := Nat.mul_lt_mul_of_pos_right ha (by decide)
    _ < 2 ^ 38 := by decide
theorem AmN.int {a : Int} (ha : a.natAbs < 100000000) : AmN (a : Rat) := by
  have := AmN.div ha (Int.le_refl 1) (by decide)
  rw [Rat.divInt_eq_div] at this
  have e : ((1 : Int) : Rat) = 1 := rfl
  rw [e, Rat.div_def] at this
  have e2 : (1 : Rat)⁻¹ = 1 := by decide +kernel
  rw [e2, Rat.mul_one] at this
  exact this
def R_price : RC1 := fun kd cds ds post => kd = .lst ∧ PoolD cds ∧ ds = [] ∧ ∀ (x : Rat) cds', QB 40 x → PrN x → PoolD cds' → post (.dat (frQ x)) .lst cds'
theorem ap_price {cds : List D} {post : Rt → Kd → List D → Prop} (hp : PoolD cds) (h : ∀ (x : Rat) cds', QB 40 x → PrN x → PoolD cds' → post (.dat (frQ x)) .lst cds') : R_price .lst cds [] post := ⟨rfl, hp, rfl, h⟩
theorem mo_price : MonoC R_price := fun kd cds ds p q m ⟨a, b, c, h⟩ => ⟨a, b, c, fun v r h1 h2 h3 => m _ _ _ (h v r h1 h2 h3)⟩
section
variable {P : Program} {w : World} {K : PySem.W.Frag} {mg : Str → Option Value} {base : Heap}
theorem ok_law_price {f : Addr} {fd : FuncData} (C : Bs2 mg) (c_law_draw : CaC P w K mg base "_law_draw" 3 R_draw) (c_law_pick : CaC P w K mg base "_law_pick" 4 R_pick) (c_law_ratio : CaP P w K mg base "_law_ratio" 2 R_ratQ) (Fu : Fun K "_law_price" "_law_price" s_law_price f fd) : FnOk P w K mg base CX0 5 f fd ["pool"] (spC K R_price) := by
  refine fn_C Fu sc_law_price (fun kd cds ds post h => ?_) fun X F kd cds ds post hX hfn hH h => ?_
  · obtain ⟨_, _, rfl, _⟩ := h
    rfl
  · obtain ⟨rfl, hp, rfl, k⟩ := h
    have bx := hX.bx
    have r0 := hX.nmR (i := 0) (x := "pool") rfl (by first | exact Or.inl (by decide +kernel) | exact Or.inr (Or.inl (by decide +kernel))); have w0 := hX.nmW (i := 0) (x := "pool") rfl (by decide +kernel); have r1 := hX.nmR (i := 1) (x := "way") rfl (by first | exact Or.inl (by decide +kernel) | exact Or.inr (Or.inl (by decide +kernel))); have w1 := hX.nmW (i := 1) (x := "way") rfl (by decide +kernel); have d_law_draw := c_law_draw.at hX (by decide +kernel); have d_law_pick := c_law_pick.at hX (by decide +kernel); have d_law_ratio := c_law_ratio.at hX (by decide +kernel)
    conv => (arg 3; whnf)
    walk_at "go"
    refine ap_draw hp (lim_of (by decide) (by decide)) fun v cds1 v0 v1 hp1 => ?_
    refine rtΦ_dat ?_
    walk_at "go"
    · refine ap_pick hp1 (.inl rfl) (by decide) (by decide) fun d cds2 hd hp2 => ?_
      refine rtΦ_dat ?_
      obtain ⟨j, rfl, j0, j1⟩ : ∃ j : Int, d = .int j ∧ 0 ≤ j ∧ j ≤ 35 := by
        simp only [List.mem_cons, List.not_mem_nil, or_false] at hd
        rcases hd with rfl | rfl | rfl | rfl | rfl <;> exact ⟨_, rfl, by decide, by decide⟩
      walk_at "go"
      refine ⟨.lst, _, _, rfl, dsOf_map _, ?_⟩
      show post (.dat (.nd .tup [.int j, .int 1])) _ _
      rw [frQ_int]
      exact k _ _ (QB_int (by unfold Bd; omega) (by decide)) (PrN.int (by omega)) hp2
    · refine ap_draw hp1 (lim_of (by decide) (by decide)) fun a cds2 a0 a1 hp2 => ?_
      refine rtΦ_dat ?_
      walk_at "go"
      refine ⟨.lst, _, _, rfl, dsOf_map _, ?_⟩
      show post (.dat (.nd .tup [.int (a - 10), .int 1])) _ _
      rw [frQ_int]
      exact k _ _ (QB_int (by unfold Bd; omega) (by decide)) (PrN.int (by omega)) hp2
    · refine ap_draw hp1 (lim_of (by decide) (by decide)) fun a cds2 a0 a1 hp2 => ?_
      refine rtΦ_dat ?_
      walk_at "go"
      refine ap_draw hp2 (lim_of (by decide) (by decide)) fun b cds3 b0 b1 hp3 => ?_
      refine rtΦ_dat ?_
      walk_at "go"
      have q1 : Bd 40 (a - 500) := by unfold Bd; omega
      have q2 : Bd 40 (1 + b) := by unfold Bd; omega
      refine ap_ratQ (by omega) (q1.mono (by decide)) (q2.mono (by decide)) ?_
      refine rtX_P (rtΦ_dat ?_) rfl
      exact ⟨.lst, _, _, rfl, dsOf_map _, k _ _ (QB.div q1 q2 (by omega)) (PrN.div (by omega) (by omega) (by omega)) hp3⟩
end
def loF (rs : List Rg) (pr : FM Rat) : Rat := (rs.map (due1 pr)).sum
/-- the names differ: the dict's values are the rights' dues -/
theorem duF_eq {rs : List Rg} {pr : FM Rat} (nd : (rs.map Rg.name).Nodup) : duF rs pr = rs.map fun r => (r.name, due1 pr r) := by
  have key : ∀ (rs : List Rg) (m : FM Rat), (rs.map Rg.name).Nodup → (∀ r ∈ rs, r.name ∉ m.ks) → rs.foldl (duS pr) m = m ++ rs.map fun r => (r.name, due1 pr r) := by
    intro rs
    induction rs with
    | nil => intro m _ _; simp
    | cons r rs ih =>
      intro m h1 h2
      rw [List.map_cons, List.nodup_cons] at h1
      have e : duS pr m r = m ++ [(r.name, due1 pr r)] := FM.put_new (h2 r List.mem_cons_self)
      rw [List.foldl_cons, e, ih _ h1.2 fun q hq => ?_, List.map_cons, List.append_assoc]
      · rfl
      · unfold FM.ks
        rw [List.map_append, List.mem_append, not_or]
        refine ⟨h2 q (List.mem_cons_of_mem _ hq), fun z => ?_⟩
        have z : q.name = r.name := by simpa using z
        exact h1.1 (by rw [← z]; exact List.mem_map_of_mem hq)
  unfold duF
  rw [key rs [] nd fun r _ z => (by cases z), List.nil_append]
def R_lowed : RP := fun ds post => ∃ (rs : List Rg) (pr : FM Rat), ds = [rgsD rs, fmD frQ pr] ∧ RgOk rs ∧ PrOk rs pr ∧ post (.dat (frQ (loF rs pr)))
theorem ap_lowed {rs : List Rg} {pr : FM Rat} {post : Rt → Prop} (h1 : RgOk rs) (h2 : PrOk rs pr) (h : post (.dat (frQ (loF rs pr)))) : R_lowed [rgsD rs, fmD frQ pr] post := ⟨rs, pr, rfl, h1, h2, h⟩
theorem mo_lowed : MonoP R_lowed := fun ds p q m ⟨a, b, c, d, e, h⟩ => ⟨a, b, c, d, e, m _ h⟩
section
variable {P : Program} {w : World} {K : PySem.W.Frag} {mg : Str → Option Value} {base : Heap}
theorem ok_law_owed {f : Addr} {fd : FuncData} (c_law_add : CaP P w K mg base "_law_add" 3 R_add) (c_law_sub : CaP P w K mg base "_law_sub" 3 R_less) (c_law_mul : CaP P w K mg base "_law_mul" 3 R_mul)
    (Fu : Fun K "_law_owed" "_law_owed" s_law_owed f fd) : FnOk P w K mg base CX0 4 f fd ["rights", "prices"] (spP K R_lowed) := by
  refine fn_P Fu sc_law_owed (fun ds post h => ?_) fun X F ds post hX hfn hH h => ?_
  · obtain ⟨_, _, rfl, _⟩ := h
    rfl
  · obtain ⟨rs, pr, rfl, hr, hp, k⟩ := h
    have bx := hX.bx
    have r0 := hX.nmR (i := 0) (x := "rights") rfl (by first | exact Or.inl (by decide +kernel) | exact Or.inr (Or.inl (by decide +kernel))); have w0 := hX.nmW (i := 0) (x := "rights") rfl (by decide +kernel); have r1 := hX.nmR (i := 1) (x := "prices") rfl (by first | exact Or.inl (by decide +kernel) | exact Or.inr (Or.inl (by decide +kernel))); have w1 := hX.nmW (i := 1) (x := "prices") rfl (by decide +kernel); have r2 := hX.nmR (i := 2) (x := "found") rfl (by first | exact Or.inl (by decide +kernel) | exact Or.inr (Or.inl (by decide +kernel))); have w2 := hX.nmW (i := 2) (x := "found") rfl (by decide +kernel); have r3 := hX.nmR (i := 3) (x := "name") rfl (by first | exact Or.inl (by decide +kernel) | exact Or.inr (Or.inl (by decide +kernel))); have w3 := hX.nmW (i := 3) (x := "name") rfl (by decide +kernel); have r4 := hX.nmR (i := 4) (x := "holder") rfl (by first | exact Or.inl (by decide +kernel) | exact Or.inr (Or.inl (by decide +kernel))); have w4 := hX.nmW (i := 4) (x := "holder") rfl (by decide +kernel); have r5 := hX.nmR (i := 5) (x := "source") rfl (by first | exact Or.inl (by decide +kernel) | exact Or.inr (Or.inl (by decide +kernel))); have w5 := hX.nmW (i := 5) (x := "source") rfl (by decide +kernel); have r6 := hX.nmR (i := 6) (x := "sink") rfl (by first | exact Or.inl (by decide +kernel) | exact Or.inr (Or.inl (by decide +kernel))); have w6 := hX.nmW (i := 6) (x := "sink") rfl (by decide +kernel); have r7 := hX.nmR (i := 7) (x := "amount") rfl (by first | exact Or.inl (by decide +kernel) | exact Or.inr (Or.inl (by decide +kernel))); have w7 := hX.nmW (i := 7) (x := "amount") rfl (by decide +kernel); have d_law_add := c_law_add.at hX (by decide +kernel); have d_law_mul := c_law_mul.at hX (by decide +kernel); have d_law_sub := c_law_sub.at hX (by decide +kernel)
    conv => (arg 3; whnf)
    have hsz := hr.sz
    have hall : ∀ x ∈ rs.map (due1 pr), QB 130 x := fun x hx => by
      obtain ⟨r, h1, rfl⟩ := List.mem_map.mp hx
      exact hp.due hr h1
    walk_at "st"; walk_at "go"
    refine jss_for bx (fun i s => ∃ o1 o2 o3 o4 o5, s = ⟨[some (.d (rgsD rs)), some (.d (fmD frQ pr)), some (.d (frQ ((rs.map (due1 pr)).take i).sum)), o1, o2, o3, o4, o5], [], 0⟩) (ji_lst ?_) (by intro _; rfl)
    walk_at "go"
    refine ⟨⟨_, _, _, _, _, rfl⟩, ?_, ?_⟩
    · rintro i v s' hi ⟨d, hd, rfl⟩ ⟨o1, o2, o3, o4, o5, rfl⟩
      rw [List.getElem?_map] at hd
      have hi2 : i < rs.length := by simpa using hi
      have hx : rs[i]? = some rs[i] := List.getElem?_eq_getElem hi2
      rw [hx] at hd
      cases hd
      have hm := List.mem_of_getElem? hx
      obtain ⟨a1, a2⟩ := hp.get (hp.src _ hm)
      obtain ⟨b1, b2⟩ := hp.get (hp.snk _ hm)
      have hq : (rs.map (due1 pr))[i]? = some (due1 pr rs[i]) := by rw [List.getElem?_map, hx]; rfl
      walk_at "go"
      refine jx_dct bx.hu rfl rfl b2 ?_
      walk_at "go"
      refine jx_dct bx.hu rfl rfl a2 ?_
      walk_at "go"
      refine ap_op 40 40 b1 a1 (by decide) (by decide) (by decide) trivial ?_
      walk_at "go"
      refine ap_op 40 81 (hr.ok _ hm) (b1.sub a1) (by decide) (by decide) (by decide) trivial ?_
      walk_at "go"
      refine ap_op (1 + 131 * i) 130 (sum_QB hall i (by rw [List.length_map]; omega)) (hp.due hr hm) (by omega) (by decide) (by omega) trivial ?_
      walk_at "go"
      exact ⟨_, _, _, _, _, by rw [sum_take hq]; rfl⟩
    · rintro s' ⟨o1, o2, o3, o4, o5, rfl⟩
      have e : (rs.map rgD).length = (rs.map (due1 pr)).length := by rw [List.length_map, List.length_map]
      rw [e, List.take_length]
      walk_at "go"
      exact k
end
theorem imms_str (ts : List Str) : D.imms (ts.map D.str) = true := by
  induction ts with
  | nil => rfl
  | cons t ts ih => rw [List.map_cons]; show (true && _) = true; rw [ih]; rfl
def R_rights : RC1 := fun kd cds ds post => kd = .lst ∧ PoolD cds ∧ ∃ (ts : List Str) (m : Int), ds = [.nd .lst (ts.map D.str), .int m] ∧ 0 < ts.length ∧ ts.length ≤ 20 ∧ 0 ≤ m ∧ m ≤ 24 ∧
  ∀ (rs : List Rg) cds', (rs.length : Int) ≤ m → (rs.map Rg.name).Nodup → (∀ r ∈ rs, r.src ∈ ts ∧ r.snk ∈ ts ∧ QB 40 r.amt ∧ AmN r.amt) → PoolD cds' → post (.new .lst (rs.map rgD)) .lst cds'
theorem ap_rights {cds : List D} {ts : List Str} {m : Int} {post : Rt → Kd → List D → Prop} (hp : PoolD cds) (h0 : 0 < ts.length) (h1 : ts.length ≤ 20) (h2 : 0 ≤ m) (h3 : m ≤ 24)
    (h : ∀ (rs : List Rg) cds', (rs.length : Int) ≤ m → (rs.map Rg.name).Nodup → (∀ r ∈ rs, r.src ∈ ts ∧ r.snk ∈ ts ∧ QB 40 r.amt ∧ AmN r.amt) → PoolD cds' → post (.new .lst (rs.map rgD)) .lst cds') : R_rights .lst cds [.nd .lst (ts.map D.str), .int m] post := ⟨rfl, hp, ts, m, rfl, h0, h1, h2, h3, h⟩
theorem mo_rights : MonoC R_rights := fun kd cds ds p q m ⟨a, b, n, c, d, e, f, g, i, h⟩ => ⟨a, b, n, c, d, e, f, g, i, fun v r h1 h2 h3 h4 => m _ _ _ (h v r h1 h2 h3 h4)⟩
section
variable {P : Program} {w : World} {K : PySem.W.Frag} {mg : Str → Option Value} {base : Heap}
theorem ok_law_rights {f : Addr} {fd : FuncData} (C : Bs2 mg) (c_law_draw : CaC P w K mg base "_law_draw" 3 R_draw) (c_law_pick : CaC P w K mg base "_law_pick" 4 R_pick) (c_law_fresh : CaS P w K mg base "_law_fresh" 5 (RSn R_fresh)) (c_law_div : CaP P w K mg base "_law_div" 3 R_over) (Fu : Fun K "_law_rights" "_law_rights" s_law_rights f fd) :
    FnOk P w K mg base CX0 6 f fd ["pool", "places", "most"] (spC K R_rights) := by
  refine fn_C Fu sc_law_rights (fun kd cds ds post h => ?_) fun X F kd cds ds post hX hfn hH h => ?_
  · obtain ⟨_, _, ts, m, rfl, _⟩ := h
    rfl
  · obtain ⟨rfl, hp, ts, m, rfl, t0, t1, m0, m1, k⟩ := h
    have bx := hX.bx
    have mF := mo_fresh
    have r0 := hX.nmR (i := 0) (x := "pool") rfl (by first | exact Or.inl (by decide +kernel) | exact Or.inr (Or.inl (by decide +kernel))); have w0 := hX.nmW (i := 0) (x := "pool") rfl (by decide +kernel); have r1 := hX.nmR (i := 1) (x := "places") rfl (by first | exact Or.inl (by decide +kernel) | exact Or.inr (Or.inl (by decide +kernel))); have w1 := hX.nmW (i := 1) (x := "places") rfl (by decide +kernel); have r2 := hX.nmR (i := 2) (x := "most") rfl (by first | exact Or.inl (by decide +kernel) | exact Or.inr (Or.inl (by decide +kernel))); have w2 := hX.nmW (i := 2) (x := "most") rfl (by decide +kernel); have r3 := hX.nmR (i := 3) (x := "rights") rfl (by first | exact Or.inl (by decide +kernel) | exact Or.inr (Or.inl (by decide +kernel))); have w3 := hX.nmW (i := 3) (x := "rights") rfl (by decide +kernel); have r4 := hX.nmR (i := 4) (x := "k") rfl (by first | exact Or.inl (by decide +kernel) | exact Or.inr (Or.inl (by decide +kernel))); have w4 := hX.nmW (i := 4) (x := "k") rfl (by decide +kernel); have r5 := hX.nmR (i := 5) (x := "name") rfl (by first | exact Or.inl (by decide +kernel) | exact Or.inr (Or.inl (by decide +kernel))); have w5 := hX.nmW (i := 5) (x := "name") rfl (by decide +kernel); have r6 := hX.nmR (i := 6) (x := "amount") rfl (by first | exact Or.inl (by decide +kernel) | exact Or.inr (Or.inl (by decide +kernel))); have w6 := hX.nmW (i := 6) (x := "amount") rfl (by decide +kernel); have g_range := hX.glb (x := "range") (by decide +kernel) C.b_range; have d_law_draw := c_law_draw.at hX (by decide +kernel); have d_law_fresh := c_law_fresh.at hX (by decide +kernel); have d_law_pick := c_law_pick.at hX (by decide +kernel); have d_law_div := c_law_div.at hX (by decide +kernel)
    conv => (arg 3; whnf)
    refine jss_set w3 (je_own (jn_lst (ja_nil ⟨by decide, rfl, ?_⟩))) (by rfl)
    let St : List D → List Rg → S := fun cds rs => ⟨[some (.r 0), some (.d (.nd .lst (ts.map D.str))), some (.d (.int m)), some (.r 1), none, none, none, none], [.nd .lst (cds.map .d), .nd .lst ((rs.map rgD).map .d)], 1⟩
    refine jss_for bx (fun i s => ∃ (cds : List D) (rs : List Rg), PoolD cds ∧ rs.length = i ∧ (rs.map Rg.name).Nodup ∧ (∀ r ∈ rs, r.src ∈ ts ∧ r.snk ∈ ts ∧ QB 40 r.amt ∧ AmN r.amt) ∧ s = ⟨[some (.r 0), some (.d (.nd .lst (ts.map D.str))), some (.d (.int m)), some (.r 1), none, none, none, none], [.nd .lst (cds.map .d), .nd .lst ((rs.map rgD).map .d)], 1⟩) (ji_range1 g_range ?_) (by intro _; rfl)
    walk_at "go"
    refine ap_draw hp (lim_of (by omega) (by omega)) fun v cds1 v0 v1 hp1 => ?_
    refine ⟨v, rfl, by omega, ⟨cds1, [], hp1, rfl, List.nodup_nil, fun r hr => (by cases hr), rfl⟩, ?_, ?_⟩
    · rintro i e s' hi he ⟨cds, rs, hp, hl, hn, ha, rfl⟩
      obtain rfl : e = _ := he
      walk_at "st"; walk_at "st"; walk_at "st"; walk_at "st"; walk_at "st"; walk_at "st"
      refine je_borrow (fun F' => ?_)
      have hvw : S.viewSl (S.set ⟨[some (.r 0), some (.d (.nd .lst (ts.map D.str))), some (.d (.int m)), some (.r 1), none, none, none, none], [.nd .lst (cds.map .d), .nd .lst ((rs.map rgD).map .d)], 1⟩ 4 (.d (.int (0 + (i : Int))))) = [some (.d (.nd .lst cds)), some (.d (.nd .lst (ts.map D.str))), some (.d (.int m)), some (.d (.nd .lst (rs.map rgD))), some (.d (.int (0 + (i : Int)))), none, none, none] := by
        simp [S.viewSl, S.set, setN, S.view, nth, dsOf_map, -List.map_map]
      rw [hvw]
      refine je_lcI bx (blk_ok hX (own := [("right", 7)]) (by decide +kernel)) (j := 7) (by decide) (fun Y hY => (hY.is hX).nmW rfl (by decide +kernel)) (ji_lst ?_) (by intro _; rfl)
      walk_at "go"
      refine ⟨by rw [List.length_map]; omega, fun j ds t => ds = ((rs.take j).map Rg.name).map D.str ∧ t = ⟨[some (.d (.nd .lst cds)), some (.d (.nd .lst (ts.map D.str))), some (.d (.int m)), some (.d (.nd .lst (rs.map rgD))), some (.d (.int (0 + (i : Int)))), none, none, none], [], 0⟩, ⟨rfl, rfl⟩, ?_, ?_⟩
      · rintro q v ds t hq ⟨d, hd, rfl⟩ hdl ⟨rfl, rfl⟩
        rw [List.getElem?_map] at hd
        have hq2 : q < rs.length := by simpa using hq
        have hx : rs[q]? = some rs[q] := List.getElem?_eq_getElem hq2
        rw [hx] at hd
        cases hd
        refine ⟨rfl, rfl, fun Y hY => ?_⟩
        have hYX := hY.is hX; have bY := hYX.bx; have r7Y := hYX.nmR (i := 7) (x := "right") rfl (by first | exact Or.inl (by decide +kernel) | exact Or.inr (Or.inl (by decide +kernel)) | exact Or.inr (Or.inr (by decide +kernel)))
        walk_at "go"
        refine ⟨_, ⟨[some (.d (.nd .lst cds)), some (.d (.nd .lst (ts.map D.str))), some (.d (.int m)), some (.d (.nd .lst (rs.map rgD))), some (.d (.int (0 + (i : Int)))), none, none, none], [], 0⟩, rfl, rfl, rfl, rfl, ?_, rfl⟩
        rw [← take_snoc hx, List.map_append, List.map_append]; rfl
      · rintro ds t hdl ⟨rfl, rfl⟩
        refine ⟨rfl, ((rs.map Rg.name).map D.str), rfl, ?_, ?_, ?_⟩
        · rw [List.length_map, List.take_length]; rfl
        · exact imms_str _
        · walk_at "go"
          refine on_r rfl (dsOf_map _) (on_r rfl (dsOf_map _) (on_ds rfl ⟨(show ([0, 2] : List Nat).Nodup by decide), ap_fresh hp (by rw [List.length_map]; omega) fun z cds' hz zl hp' => ?_⟩))
          refine rtΦ_dat ?_
          walk_at "go"
          refine ap_pick hp' (.inl rfl) (by decide) (by decide) fun d cds2 hd hp2 => ?_
          refine rtΦ_dat ?_
          obtain ⟨j, rfl, j0, j1⟩ : ∃ j : Int, d = .int j ∧ 2 ≤ j ∧ j ≤ 100000000 := by
            simp only [List.mem_cons, List.not_mem_nil, or_false] at hd
            rcases hd with rfl | rfl | rfl | rfl <;> exact ⟨_, rfl, by decide, by decide⟩
          walk_at "go"
          refine ap_draw hp2 (lim_of (by omega) (by omega)) fun a cds3 a0 a1 hp3 => ?_
          refine rtΦ_dat ?_
          walk_at "go"
          refine jss_ifM (fun s1 => ∃ (x : Rat) (cds4 : List D), QB 40 x ∧ AmN x ∧ PoolD cds4 ∧ s1 = ⟨[some (.r 0), some (.d (.nd .lst (ts.map D.str))), some (.d (.int m)), some (.r 1), some (.d (.int (0 + (i : Int)))), some (.d (.str z)), some (.d (frQ x)), none], [.nd .lst (cds4.map .d), .nd .lst ((rs.map rgD).map .d), .nd .lst (((rs.map Rg.name).map D.str).map .d)], 1⟩) ?_ ?_
          · walk_at "go"
            refine ap_draw hp3 (lim_of (by decide) (by decide)) fun v cds4 v0 v1 hp4 => ?_
            refine rtΦ_dat ?_
            walk_at "go"
            · refine ap_draw hp4 (lim_of (by decide) (by decide)) fun q cds5 q0 q1 hp5 => ?_
              refine rtΦ_dat ?_
              walk_at "go"
              have e1 : D.nd .tup [.int a, .int 1] = frQ (a : Rat) := frQ_int a
              have e2 : D.nd .tup [.int (1 + q), .int 1] = frQ ((1 + q : Int) : Rat) := frQ_int (1 + q)
              have b1 : QB 27 (a : Rat) := QB_int (by unfold Bd; omega) (by decide)
              have b2 : QB 5 ((1 + q : Int) : Rat) := QB_int (by unfold Bd; omega) (by decide)
              have nz0 : ((1 + q : Int) : Rat) ≠ 0 := fun z => by
                have : (1 + q : Int) = 0 := by exact_mod_cast z
                omega
              show R_over [D.nd .tup [.int a, .int 1], D.nd .tup [.int (1 + q), .int 1]] _
              rw [e1, e2]
              refine ap_op 27 5 b1 b2 (by decide) (by decide) (by decide) nz0 ?_
              refine rtX_P (rtΦ_dat ?_) rfl
              walk_at "go"
              refine ⟨(a : Rat) / ((1 + q : Int) : Rat), cds5, ?_, ?_, hp5, rfl⟩
              · rw [← Rat.divInt_eq_div]
                exact QB.div (by unfold Bd; omega) (by unfold Bd; omega) (by omega)
              · rw [← Rat.divInt_eq_div]
                exact AmN.div (by omega) (by omega) (by omega)
            · exact ⟨_, _, QB_int (n := a) (by unfold Bd; omega) (by decide), AmN.int (by omega), hp4, by rw [← frQ_int]; rfl⟩
          · rintro s1 ⟨x, cds4, hx, hxA, hp4, rfl⟩
            walk_at "st"
            refine je_append ?_
            walk_at "go"
            refine ⟨_, _, rfl, rfl, ?_⟩
            walk_at "go"
            refine ap_pick hp4 (.inl rfl) (by decide) (by decide) fun d cds5 hd hp5 => ?_
            refine rtΦ_dat ?_
            obtain ⟨hh, rfl⟩ : ∃ hh : Str, d = .str hh := by
              simp only [List.mem_cons, List.not_mem_nil, or_false] at hd
              rcases hd with rfl | rfl <;> exact ⟨_, rfl⟩
            walk_at "go"
            refine ap_pick hp5 (.inl rfl) (by rw [List.length_map]; omega) (by rw [List.length_map]; omega) fun d cds6 hd2 hp6 => ?_
            refine rtΦ_dat ?_
            obtain ⟨s0, hs0, rfl⟩ := List.mem_map.mp hd2
            walk_at "go"
            refine ap_pick hp6 (.inl rfl) (by rw [List.length_map]; omega) (by rw [List.length_map]; omega) fun d cds7 hd3 hp7 => ?_
            refine rtΦ_dat ?_
            obtain ⟨s1, hs1, rfl⟩ := List.mem_map.mp hd3
            walk_at "go"
            refine ⟨by rw [sizeLine_eq, List.length_map, List.length_map]; omega, ?_⟩
            refine jss_end (s' := ⟨[some (.r 0), some (.d (.nd .lst (ts.map D.str))), some (.d (.int m)), some (.r 1), none, none, none, none], [.nd .lst (cds7.map .d), .nd .lst (((rs ++ [Rg.mk z hh s0 s1 x]).map rgD).map .d)], 1⟩) ?_ ?_ ?_ ?_
            · refine ⟨?_, rfl, ?_, rfl, (show 1 ≤ 2 by decide)⟩
              · rintro i' e he
                match i', he with
                | 0, he => exact he
                | 1, he => exact he
                | 2, he => exact he
                | 3, he => exact he
                | 4, he => cases he
                | 5, he => cases he
                | 6, he => cases he
                | 7, he => cases he
                | n + 8, he => cases he
              · refine ⟨[.nd .lst (((rs.map Rg.name).map D.str).map .d)], ?_⟩
                rw [List.map_append, List.map_append]; rfl
            · rfl
            · show ((cds7.map E.d).all (E.lt 2) && (((((rs ++ [Rg.mk z hh s0 s1 x]).map rgD).map E.d).all (E.lt 2)) && true)) = true
              rw [lt_ds, lt_ds]; rfl
            · refine ⟨cds7, rs ++ [Rg.mk z hh s0 s1 x], hp7, by simp [hl], ?_, ?_, rfl⟩
              · rw [List.map_append, List.nodup_append]
                exact ⟨hn, by simp, fun a ha b hb e => by
                  have : b = z := by simpa using hb
                  subst this; subst e; exact hz ha⟩
              · intro r hr
                rcases List.mem_append.mp hr with hr | hr
                · exact ha r hr
                · have : r = Rg.mk z hh s0 s1 x := by simpa using hr
                  subst this
                  exact ⟨hs0, hs1, hx, hxA⟩
    · rintro s' ⟨cds, rs, hp, hl, hn, ha, rfl⟩
      walk_at "go"
      exact ⟨.lst, _, _, rfl, dsOf_map _, .lst, _, rs.map rgD, rfl, dsOf_map _, Nat.le_refl 1, k rs _ (by omega) hn ha hp⟩
end
theorem Sm_lst_same {n : Nat} {ds : List D} (hs : ds.length ≤ 16000000) (h : ∀ x ∈ ds, Sm n x x) : Sm (n + 1) (.nd .lst ds) (.nd .lst ds) :=
  ⟨ds, rfl, rfl, hs, fun i x y h1 h2 => by
    rw [h1] at h2; cases h2; exact h x (List.mem_of_getElem? h1)⟩
theorem Sm_tup_same {n : Nat} {ds : List D} (hs : ds.length ≤ 16000000) (h : ∀ x ∈ ds, Sm n x x) : Sm (n + 1) (.nd .tup ds) (.nd .tup ds) :=
  ⟨ds, rfl, rfl, hs, fun i x y h1 h2 => by
    rw [h1] at h2; cases h2; exact h x (List.mem_of_getElem? h1)⟩
theorem Sm_int (n : Nat) (i : Int) : Sm (n + 1) (.int i) (.int i) := rfl
theorem Sm_str (n : Nat) (i : Str) : Sm (n + 1) (.str i) (.str i) := rfl
theorem Sm_frQ (n : Nat) (x : Rat) : Sm (n + 2) (frQ x) (frQ x) := Sm_tup_same (by simp) fun y hy => by
  simp only [List.mem_cons, List.not_mem_nil, or_false] at hy
  rcases hy with rfl | rfl <;> exact rfl
theorem Sm_rgD (n : Nat) (r : Rg) : Sm (n + 3) (rgD r) (rgD r) := Sm_tup_same (by simp) fun y hy => by
  simp only [List.mem_cons, List.not_mem_nil, or_false] at hy
  rcases hy with rfl | rfl | rfl | rfl | rfl
  · exact rfl
  · exact rfl
  · exact rfl
  · exact rfl
  · exact Sm_frQ n _
theorem Sm_rgs (n : Nat) {rs : List Rg} (h : rs.length ≤ 24) : Sm (n + 4) (rgsD rs) (rgsD rs) := Sm_lst_same (by rw [List.length_map]; omega) fun x hx => by
  obtain ⟨r, _, rfl⟩ := List.mem_map.mp hx
  exact Sm_rgD n r
theorem Sm_fm (n : Nat) {a d : FM Rat} (nd : d.ks.Nodup) (hs : d.length ≤ 16000000) (hl : a.length = d.length) (h : ∀ p ∈ d, a.get p.1 = some p.2) : Sm (n + 3) (fmD frQ a) (fmD frQ d) := by
  refine ⟨fmK a, fmV frQ a, rfl, by rw [fmV_len, fmV_len, hl], by rw [fmK_len, fmV_len], fmK_nd nd, by rw [fmV_len]; exact hs, fun i k y h1 h2 => ?_⟩
  unfold fmK FM.ks at h1
  unfold fmV at h2
  rw [List.getElem?_map, List.getElem?_map] at h1
  rw [List.getElem?_map] at h2
  cases hp : d[i]? with
  | none => rw [hp] at h1; cases h1
  | some p =>
    rw [hp] at h1 h2
    cases h1; cases h2
    have hg := h p (List.mem_of_getElem? hp)
    have e := fm_lk (f := frQ) a p.1
    rw [hg, lk_map] at e
    cases q : lk ((fmK a).zip (fmV frQ a)) (.inr p.1) with
    | none => rw [q] at e; cases e
    | some z =>
      rw [q] at e
      cases e
      exact ⟨_, rfl, Sm_frQ n _⟩
theorem FM.get_own {m : FM Rat} (nd : m.ks.Nodup) {p : Str × Rat} (h : p ∈ m) : m.get p.1 = some p.2 := by
  obtain ⟨i, hi⟩ := List.getElem?_of_mem h
  exact FM.get_at nd hi
theorem Sm_fm_same (n : Nat) {d : FM Rat} (nd : d.ks.Nodup) (hs : d.length ≤ 16000000) : Sm (n + 3) (fmD frQ d) (fmD frQ d) :=
  Sm_fm n nd hs rfl fun _ hp => FM.get_own nd hp
section
variable {P : Program} {w : World} {K : PySem.W.Frag} {mg : Str → Option Value} {base : Heap}
end
def Dz : Int := 13464187271799264000
theorem cAL : cA * cL = ((Dz : Int) : Rat)⁻¹ := by unfold cA cL Dz Lz; decide +kernel
/-- n over the one denominator -/
def QN (N : Nat) (x : Rat) : Prop := ∃ n : Int, x = (n : Rat) * (cA * cL) ∧ n.natAbs ≤ N
theorem QN.zero (N : Nat) : QN N 0 := ⟨0, by rw [show ((0 : Int) : Rat) = 0 from rfl, Rat.zero_mul], by simp⟩
theorem QN.mono {N M : Nat} {x : Rat} (h : QN N x) (l : N ≤ M) : QN M x := let ⟨n, e, b⟩ := h; ⟨n, e, Nat.le_trans b l⟩
theorem QN.add {N M : Nat} {x y : Rat} (h : QN N x) (g : QN M y) : QN (N + M) (x + y) := by
  obtain ⟨n, rfl, b⟩ := h
  obtain ⟨m, rfl, c⟩ := g
  exact ⟨n + m, by rw [Rat.intCast_add, Rat.add_mul], by omega⟩
theorem QN.neg {N : Nat} {x : Rat} (h : QN N x) : QN N (-x) := by
  obtain ⟨n, rfl, b⟩ := h
  exact ⟨-n, by rw [Rat.intCast_neg, Rat.neg_mul], by omega⟩
theorem QN.QB {N k : Nat} {x : Rat} (h : QN N x) (hN : N < 2 ^ k) (hk : 64 ≤ k) : QB k x := by
  obtain ⟨n, rfl, b⟩ := h
  rw [cAL, ← Rat.div_def, ← Rat.divInt_eq_div]
  have h1 : (Dz.natAbs) < 2 ^ 64 := by decide
  exact QB.div (Nat.lt_of_le_of_lt b hN) (Nat.lt_of_lt_of_le h1 (Nat.pow_le_pow_right (by decide) hk)) (by decide)
theorem sumN {N : Nat} {xs : List Rat} (h : ∀ x ∈ xs, QN N x) : ∀ i, i ≤ xs.length → QN (i * N) (xs.take i).sum
  | 0, _ => by rw [List.take_zero]; exact QN.zero _
  | i + 1, hi => by
    have hr : xs[i]? = some xs[i] := List.getElem?_eq_getElem (by omega)
    rw [sum_take hr, Nat.add_mul, Nat.one_mul]
    exact (sumN h i (by omega)).add (h _ (List.mem_of_getElem? hr))
theorem due_QN {x p q : Rat} (hx : AmN x) (h1 : PrN p) (h2 : PrN q) : QN (2 ^ 104) (x * (p - q)) := by
  obtain ⟨a, rfl, ha⟩ := hx
  obtain ⟨m, rfl, hm⟩ := h1
  obtain ⟨n, rfl, hn⟩ := h2
  refine ⟨a * (m - n), ?_, ?_⟩
  · rw [Rat.intCast_mul, Rat.intCast_sub]
    grind
  · rw [Int.natAbs_mul]
    have h3 : (m - n).natAbs < 2 ^ 65 := by omega
    calc a.natAbs * (m - n).natAbs ≤ 2 ^ 38 * 2 ^ 65 := Nat.mul_le_mul (Nat.le_of_lt ha) (Nat.le_of_lt h3)
      _ ≤ 2 ^ 104 := by decide
/-- rights and prices whose dues are small -/
structure Ok7 (rs : List Rg) (pr : FM Rat) : Prop where
  r : RgOk rs
  p : PrOk rs pr
  nd : (rs.map Rg.name).Nodup
  a : ∀ r ∈ rs, AmN r.amt
  q : pr.All PrN
  pl : pr.length ≤ 6
abbrev vF (rs : List Rg) (pr : FM Rat) : List Rat := rs.map (due1 pr)
theorem fm_all {m : FM Rat} {Pq : Rat → Prop} (hA : m.All Pq) {y : Str} (hy : y ∈ m.ks) : Pq (val m y) := by
  obtain ⟨q, hq⟩ := Option.isSome_iff_exists.mp (FM.get_in.mpr hy)
  have e : val m y = q := by unfold val; rw [hq]; rfl
  rw [e]; exact hA.get hq
theorem Ok7.due {rs : List Rg} {pr : FM Rat} (h : Ok7 rs pr) {r : Rg} (hr : r ∈ rs) : QN (2 ^ 104) (due1 pr r) :=
  due_QN (h.a r hr) (fm_all h.q (h.p.snk r hr)) (fm_all h.q (h.p.src r hr))
theorem Ok7.vs {rs : List Rg} {pr : FM Rat} (h : Ok7 rs pr) : ∀ v ∈ vF rs pr, QN (2 ^ 104) v := fun v hv => by
  obtain ⟨r, hr, rfl⟩ := List.mem_map.mp hv
  exact h.due hr
def nv (v : Rat) : Rat := if v.num < 0 then v else 0
def pv (v : Rat) : Rat := if v.num < 0 then 0 else v
theorem QN.nv {N : Nat} {v : Rat} (h : QN N v) : QN N (nv v) := by unfold W.nv; split; exact h; exact QN.zero _
theorem QN.pv {N : Nat} {v : Rat} (h : QN N v) : QN N (pv v) := by unfold W.pv; split; exact QN.zero _; exact h
theorem all_map {N : Nat} {g : Rat → Rat} (hg : ∀ v, QN N v → QN N (g v)) {vs : List Rat} (h : ∀ v ∈ vs, QN N v) : ∀ v ∈ vs.map g, QN N v := fun v hv => by
  obtain ⟨u, hu, rfl⟩ := List.mem_map.mp hv
  exact hg u (h u hu)
theorem nv_pv (v : Rat) : nv v + pv v = v := by
  unfold nv pv; split
  · exact Rat.add_zero v
  · exact Rat.zero_add v
def fuV (vs : List Rat) (rent : Rat) : Rat := rent - (vs.map nv).sum
def waV (vs : List Rat) : Rat := (vs.map pv).sum
def payV (vs : List Rat) (rent v : Rat) : Rat := if fuV vs rent < waV vs then (if 0 < v.num then v * (fuV vs rent / waV vs) else v) else v
def resV (vs : List Rat) (rent : Rat) : Rat := if fuV vs rent < waV vs then 0 else fuV vs rent - waV vs
theorem perm_sum {l1 l2 : List Rat} (h : l1.Perm l2) : l1.sum = l2.sum := by
  induction h with
  | nil => rfl
  | cons x _ ih => rw [List.sum_cons, List.sum_cons, ih]
  | swap x y l => simp only [List.sum_cons]; grind
  | trans _ _ a b => rw [a, b]
theorem sum_add {f g : Rat → Rat} : ∀ l : List Rat, (l.map fun v => f v + g v).sum = (l.map f).sum + (l.map g).sum
  | [] => by simp [Rat.add_zero]
  | v :: l => by
    simp only [List.map_cons, List.sum_cons]
    rw [sum_add l]; grind
theorem sum_mul {f : Rat → Rat} (t : Rat) : ∀ l : List Rat, (l.map fun v => f v * t).sum = (l.map f).sum * t
  | [] => by simp [Rat.zero_mul]
  | v :: l => by
    simp only [List.map_cons, List.sum_cons]
    rw [sum_mul t l]; grind
theorem num_pos {x : Rat} : 0 < x.num ↔ 0 < x := by
  rw [Rat.lt_iff]
  show _ ↔ 0 * (x.den : Int) < x.num * 1
  rw [Int.zero_mul, Int.mul_one]
theorem num_neg {x : Rat} : x.num < 0 ↔ x < 0 := by
  rw [Rat.lt_iff]
  show _ ↔ x.num * 1 < 0 * (x.den : Int)
  rw [Int.zero_mul, Int.mul_one]
theorem nv_le : ∀ l : List Rat, (l.map nv).sum ≤ 0
  | [] => Rat.le_refl
  | v :: l => by
    have ih := nv_le l
    have h1 : nv v ≤ 0 := by
      unfold nv; split
      · rename_i h; exact Rat.le_of_lt (num_neg.mp h)
      · exact Rat.le_refl
    simp only [List.map_cons, List.sum_cons]
    grind
theorem fu_nonneg {vs : List Rat} {rent : Rat} (h : 0 ≤ rent.num) : 0 ≤ fuV vs rent := by
  have h1 := nv_le vs
  have h2 := Rat.num_nonneg.mp h
  unfold fuV
  grind
theorem wa_pos {vs : List Rat} {rent : Rat} (h : 0 ≤ rent.num) (hl : fuV vs rent < waV vs) : 0 < (waV vs).num := by
  have := fu_nonneg (vs := vs) h
  exact num_pos.mpr (by grind)
/-- a payment, when the fund is short -/
theorem pay_eq {vs : List Rat} {rent v : Rat} (hl : fuV vs rent < waV vs) : payV vs rent v = nv v + pv v * (fuV vs rent / waV vs) := by
  unfold payV nv pv
  rw [if_pos hl]
  by_cases h1 : v.num < 0
  · rw [if_neg (by omega), if_pos h1, if_pos h1, Rat.zero_mul, Rat.add_zero]
  · rw [if_neg h1, if_neg h1, Rat.zero_add]
    by_cases h2 : 0 < v.num
    · rw [if_pos h2]
    · rw [if_neg h2]
      have : v = 0 := Rat.num_eq_zero.mp (by omega)
      rw [this, Rat.zero_mul]
theorem pay_full {vs : List Rat} {rent v : Rat} (hl : ¬ fuV vs rent < waV vs) : payV vs rent v = v := by
  unfold payV; rw [if_neg hl]
/-- payments and rest sum to the rent -/
theorem pay_sum {vs us : List Rat} {rent : Rat} (h0 : 0 ≤ rent.num) (hu : us.Perm vs) : resV vs rent + (us.map (payV vs rent)).sum = rent := by
  rw [perm_sum (hu.map _)]
  by_cases hl : fuV vs rent < waV vs
  · have e : vs.map (payV vs rent) = vs.map fun v => nv v + pv v * (fuV vs rent / waV vs) := List.map_congr_left fun v _ => pay_eq hl
    rw [e, sum_add (f := nv) (g := fun v => pv v * (fuV vs rent / waV vs)), sum_mul (f := pv)]
    have hw := num_pos.mp (wa_pos h0 hl)
    have h1 : (vs.map pv).sum * (fuV vs rent / waV vs) = fuV vs rent := by
      show waV vs * _ = _
      rw [Rat.mul_comm, Rat.div_mul_cancel (by grind)]
    rw [h1]
    unfold resV
    rw [if_pos hl]
    unfold fuV
    grind
  · have e : vs.map (payV vs rent) = vs.map fun v => nv v + pv v := List.map_congr_left fun v _ => by rw [pay_full hl, nv_pv]
    rw [e, sum_add (f := nv) (g := pv)]
    unfold resV
    rw [if_neg hl]
    unfold fuV waV
    grind
theorem QBover {k l : Nat} {x y : Rat} (h1 : QB k x) (h2 : QB l y) (h : 0 < y.num) : QB (k + l) (x / y) := by
  rw [← q_over]
  exact QB.div (h1.n.mul h2.db) (h1.db.mul h2.n) (Int.mul_pos (den_pos' x) h)
theorem fu_QB {vs : List Rat} {rent : Rat} (h : ∀ v ∈ vs, QN (2 ^ 104) v) (hl : vs.length ≤ 24) (hr : QB 130 rent) (i : Nat) (hi : i ≤ vs.length) : QB 240 (rent - ((vs.map nv).take i).sum) := by
  have h1 := (sumN (all_map (fun v => QN.nv) h) i (by rw [List.length_map]; exact hi)).mono (M := 24 * 2 ^ 104) (Nat.mul_le_mul_right _ (by omega))
  exact (hr.sub (h1.QB (k := 109) (by decide) (by decide))).mono (by decide)
theorem wa_QB {vs : List Rat} (h : ∀ v ∈ vs, QN (2 ^ 104) v) (hl : vs.length ≤ 24) (i : Nat) (hi : i ≤ vs.length) : QB 109 (((vs.map pv).take i).sum) := by
  have h1 := (sumN (all_map (fun v => QN.pv) h) i (by rw [List.length_map]; exact hi)).mono (M := 24 * 2 ^ 104) (Nat.mul_le_mul_right _ (by omega))
  exact h1.QB (by decide) (by decide)
theorem fuV_QB {vs : List Rat} {rent : Rat} (h : ∀ v ∈ vs, QN (2 ^ 104) v) (hl : vs.length ≤ 24) (hr : QB 130 rent) : QB 240 (fuV vs rent) := by
  have := fu_QB h hl hr vs.length (Nat.le_refl _)
  rw [← List.length_map (as := vs) nv, List.take_length] at this
  exact this
theorem waV_QB {vs : List Rat} (h : ∀ v ∈ vs, QN (2 ^ 104) v) (hl : vs.length ≤ 24) : QB 109 (waV vs) := by
  have := wa_QB h hl vs.length (Nat.le_refl _)
  rw [← List.length_map (as := vs) pv, List.take_length] at this
  exact this
theorem res_QB {vs : List Rat} {rent : Rat} (h : ∀ v ∈ vs, QN (2 ^ 104) v) (hl : vs.length ≤ 24) (hr : QB 130 rent) : QB 350 (resV vs rent) := by
  unfold resV; split
  · exact (QN.zero 0).QB (by decide) (by decide)
  · exact ((fuV_QB h hl hr).sub (waV_QB h hl)).mono (by decide)
theorem pay_QB {vs : List Rat} {rent v : Rat} (h : ∀ v ∈ vs, QN (2 ^ 104) v) (hl : vs.length ≤ 24) (hr : QB 130 rent) (h0 : 0 ≤ rent.num) (hv : QN (2 ^ 104) v) : QB 460 (payV vs rent v) := by
  have hv1 : QB 105 v := hv.QB (by decide) (by decide)
  unfold payV; split
  · rename_i hlt
    split
    · exact (hv1.mul (QBover (fuV_QB h hl hr) (waV_QB h hl) (wa_pos h0 hlt))).mono (by decide)
    · exact hv1.mono (by decide)
  · exact hv1.mono (by decide)
/-- the sums on the way stay small -/
theorem S_QB {vs us : List Rat} {rent : Rat} (h : ∀ v ∈ vs, QN (2 ^ 104) v) (hl : vs.length ≤ 24) (hu : ∀ v ∈ us, QN (2 ^ 104) v) (ul : us.length ≤ 24) (hr : QB 130 rent) (h0 : 0 ≤ rent.num) (i : Nat) (hi : i ≤ us.length) : QB 920 (resV vs rent + ((us.map (payV vs rent)).take i).sum) := by
  have hr2 := res_QB h hl hr
  by_cases hlt : fuV vs rent < waV vs
  · have e : us.map (payV vs rent) = us.map fun v => nv v + pv v * (fuV vs rent / waV vs) := List.map_congr_left fun v _ => pay_eq hlt
    have e2 : ((us.map (payV vs rent)).take i).sum = ((us.map nv).take i).sum + ((us.map pv).take i).sum * (fuV vs rent / waV vs) := by
      rw [e, ← List.map_take, sum_add (f := nv) (g := fun v => pv v * (fuV vs rent / waV vs)), sum_mul (f := pv), List.map_take, List.map_take]
    rw [e2]
    have h1 := (sumN (all_map (fun v => QN.nv) hu) i (by rw [List.length_map]; exact hi)).mono (M := 24 * 2 ^ 104) (Nat.mul_le_mul_right _ (by omega))
    have h2 := h1.QB (k := 109) (by decide) (by decide)
    have h3 := wa_QB hu ul i hi
    have h4 := QBover (fuV_QB h hl hr) (waV_QB h hl) (wa_pos h0 hlt)
    exact (hr2.add (h2.add (h3.mul h4))).mono (by decide)
  · have e : us.map (payV vs rent) = us.map fun v => v := List.map_congr_left fun v _ => pay_full hlt
    rw [List.map_id'] at e
    rw [e]
    have h1 := (sumN hu i hi).mono (M := 24 * 2 ^ 104) (Nat.mul_le_mul_right _ (by omega))
    exact (hr2.add (h1.QB (k := 109) (by decide) (by decide))).mono (by decide)
/-! what is told -/
structure PaidOk (rs : List Rg) (pr : FM Rat) (rent : Rat) (m : FM Rat) : Prop where
  ks : m.ks.Perm (rs.map Rg.name)
  get : ∀ r ∈ rs, m.get r.name = some (payV (vF rs pr) rent (due1 pr r))
theorem Ok7.dks {rs : List Rg} {pr : FM Rat} (h : Ok7 rs pr) : (duF rs pr).ks = rs.map Rg.name := by
  rw [duF_eq h.nd]; unfold FM.ks; rw [List.map_map]; rfl
theorem Ok7.dget {rs : List Rg} {pr : FM Rat} (h : Ok7 rs pr) {r : Rg} (hr : r ∈ rs) : (duF rs pr).get r.name = some (due1 pr r) := by
  obtain ⟨i, hi⟩ := List.getElem?_of_mem hr
  exact FM.get_at (p := (r.name, due1 pr r)) (by rw [h.dks]; exact h.nd) (by rw [duF_eq h.nd, List.getElem?_map, hi]; rfl)
theorem Ok7.dval {rs : List Rg} {pr : FM Rat} (h : Ok7 rs pr) {r : Rg} (hr : r ∈ rs) : val (duF rs pr) r.name = due1 pr r := by
  unfold val; rw [h.dget hr]; rfl
theorem Ok7.name {rs : List Rg} {pr : FM Rat} (h : Ok7 rs pr) {zs : List Str} (hz : zs.Perm (rs.map Rg.name)) {y : Str} (hy : y ∈ zs) : ∃ r ∈ rs, r.name = y ∧ val (duF rs pr) y = due1 pr r ∧ lk ((fmK (duF rs pr)).zip ((fmV frQ (duF rs pr)).map E.d)) (.inr y) = some (.d (frQ (due1 pr r))) := by
  obtain ⟨r, hr, e⟩ := List.mem_map.mp (hz.mem_iff.mp hy)
  subst e
  exact ⟨r, hr, rfl, h.dval hr, by rw [fm_lk, h.dget hr]; rfl⟩
/-- the values, in any order of the names -/
theorem Ok7.vals {rs : List Rg} {pr : FM Rat} (h : Ok7 rs pr) {zs : List Str} (hz : zs.Perm (rs.map Rg.name)) : (zs.map (val (duF rs pr))).Perm (vF rs pr) := by
  have h1 := hz.map (val (duF rs pr))
  rw [List.map_map] at h1
  have e : rs.map (val (duF rs pr) ∘ Rg.name) = vF rs pr := List.map_congr_left fun r hr => h.dval hr
  rw [e] at h1
  exact h1
def R_paid : RP := fun ds post => ∃ (rs : List Rg) (pr : FM Rat) (rent : Rat), ds = [rgsD rs, fmD frQ pr, frQ rent] ∧ Ok7 rs pr ∧ QB 130 rent ∧ 0 ≤ rent.num ∧ ∀ m, PaidOk rs pr rent m → post (.dat (.nd .tup [fmD frQ m, frQ (resV (vF rs pr) rent)]))
theorem ap_paid {rs : List Rg} {pr : FM Rat} {rent : Rat} {post : Rt → Prop} (h1 : Ok7 rs pr) (h2 : QB 130 rent) (h3 : 0 ≤ rent.num) (h : ∀ m, PaidOk rs pr rent m → post (.dat (.nd .tup [fmD frQ m, frQ (resV (vF rs pr) rent)]))) : R_paid [rgsD rs, fmD frQ pr, frQ rent] post := ⟨rs, pr, rent, rfl, h1, h2, h3, h⟩
theorem mo_paid : MonoP R_paid := fun ds p q m ⟨a, b, c, d, e, f, g, h⟩ => ⟨a, b, c, d, e, f, g, fun y hy => m _ (h y hy)⟩
theorem sg_neg {v : Rat} : sgI v < 0 ↔ v.num < 0 := by
  unfold sgI
  split
  · omega
  · split <;> omega
theorem sg_pos {v : Rat} : 0 < sgI v ↔ 0 < v.num := by
  unfold sgI
  split
  · omega
  · split <;> omega
theorem je_cut {X : Cx} {F : Fr} {s : S} {e : Expr} {Φ : E → S → Prop} {e1 : E} (h : JE X F e s fun v s1 => v = e1 ∧ s1 = s) (q : Φ e1 s) : JE X F e s Φ := h.mono fun _ _ ⟨a, b⟩ => by subst a b; exact q
section
variable {P : Program} {w : World} {K : PySem.W.Frag} {mg : Str → Option Value} {base : Heap}
theorem ok_paid {f : Addr} {fd : FuncData} (C : Bs2 mg) (gZ : ZeroOk P w K mg base) (c_dues : CaP P w K mg base "dues" 4 R_dues) (c_sign : CaP P w K mg base "sign" 1 R_sign) (c_less : CaP P w K mg base "less" 3 R_less) (c_added : CaP P w K mg base "added" 3 R_add) (c_below : CaP P w K mg base "below" 1 R_below) (c_over : CaP P w K mg base "over" 3 R_overP) (c_times : CaP P w K mg base "times" 3 R_mul)
    (Fu : Fun K "paid" "paid" s_paid f fd) : FnOk P w K mg base CX0 5 f fd ["rights", "prices", "rent"] (spP K R_paid) := by
  refine fn_P Fu sc_paid (fun ds post h => ?_) fun X F ds post hX hfn hH h => ?_
  · obtain ⟨_, _, _, rfl, _⟩ := h
    rfl
  · obtain ⟨rs, pr, rent, rfl, h, qr, rnn, k⟩ := h
    have bx := hX.bx
    have r0 := hX.nmR (i := 0) (x := "rights") rfl (by first | exact Or.inl (by decide +kernel) | exact Or.inr (Or.inl (by decide +kernel))); have w0 := hX.nmW (i := 0) (x := "rights") rfl (by decide +kernel); have r1 := hX.nmR (i := 1) (x := "prices") rfl (by first | exact Or.inl (by decide +kernel) | exact Or.inr (Or.inl (by decide +kernel))); have w1 := hX.nmW (i := 1) (x := "prices") rfl (by decide +kernel); have r2 := hX.nmR (i := 2) (x := "rent") rfl (by first | exact Or.inl (by decide +kernel) | exact Or.inr (Or.inl (by decide +kernel))); have w2 := hX.nmW (i := 2) (x := "rent") rfl (by decide +kernel); have r3 := hX.nmR (i := 3) (x := "found") rfl (by first | exact Or.inl (by decide +kernel) | exact Or.inr (Or.inl (by decide +kernel))); have w3 := hX.nmC (i := 3) (x := "found") rfl (by decide +kernel) (hfn _); have r4 := hX.nmR (i := 4) (x := "fund") rfl (by first | exact Or.inl (by decide +kernel) | exact Or.inr (Or.inl (by decide +kernel))); have w4 := hX.nmW (i := 4) (x := "fund") rfl (by decide +kernel); have r5 := hX.nmR (i := 5) (x := "wanted") rfl (by first | exact Or.inl (by decide +kernel) | exact Or.inr (Or.inl (by decide +kernel))); have w5 := hX.nmW (i := 5) (x := "wanted") rfl (by decide +kernel); have r6 := hX.nmR (i := 6) (x := "name") rfl (by first | exact Or.inl (by decide +kernel) | exact Or.inr (Or.inl (by decide +kernel))); have w6 := hX.nmW (i := 6) (x := "name") rfl (by decide +kernel); have r7 := hX.nmR (i := 7) (x := "part") rfl (by first | exact Or.inl (by decide +kernel) | exact Or.inr (Or.inl (by decide +kernel))); have w7 := hX.nmC (i := 7) (x := "part") rfl (by decide +kernel) (hfn _); have r8 := hX.nmR (i := 8) (x := "payments") rfl (by first | exact Or.inl (by decide +kernel) | exact Or.inr (Or.inl (by decide +kernel))); have w8 := hX.nmW (i := 8) (x := "payments") rfl (by decide +kernel); have d_dues := c_dues.at hX (by decide +kernel); have g_sorted := hX.glb (x := "sorted") (by decide +kernel) C.b_sorted; have d_sign := c_sign.at hX (by decide +kernel); have d_less := c_less.at hX (by decide +kernel); have d_added := c_added.at hX (by decide +kernel); have d_below := c_below.at hX (by decide +kernel); have d_over := c_over.at hX (by decide +kernel)
    have g0 := gZ hX (by decide +kernel)
    conv => (arg 3; whnf)
    have hsz := h.r.sz
    have hvl : (vF rs pr).length ≤ 24 := by rw [List.length_map]; exact hsz
    walk_at "st"; walk_at "pd"; walk_at "go"
    refine ap_dues h.r h.p ?_
    refine rtΦd_new ?_
    have hks := h.dks
    walk_at "st"; walk_at "st"; walk_at "st"; walk_at "st"
    refine jss_forE bx (ji_lst (je_sortedD bx g_sorted ?_ (by intro _ _; rfl))) (by intro _; rfl)
    walk_at "go"
    refine ⟨(duF rs pr).ks, _, rfl, by rw [hks, List.length_map]; omega, fun zs hz _ => ?_⟩
    rw [hks] at hz
    have zl : zs.length ≤ 24 := by rw [hz.length_eq, List.length_map]; exact hsz
    have hus : ∀ v ∈ zs.map (val (duF rs pr)), QN (2 ^ 104) v := fun v hv => h.vs v ((h.vals hz).mem_iff.mp hv)
    have hul : (zs.map (val (duF rs pr))).length ≤ 24 := by rw [List.length_map]; exact zl
    generalize hU : zs.map (val (duF rs pr)) = us at hus hul
    have hup : us.Perm (vF rs pr) := by rw [← hU]; exact h.vals hz
    have eul : us.length = zs.length := by rw [← hU, List.length_map]
    refine ⟨_, rfl, fun i s => ∃ o6, s = ⟨[some (.d (rgsD rs)), some (.d (fmD frQ pr)), some (.d (frQ rent)), some (.d (fmD frQ (duF rs pr))), some (.d (frQ (rent - ((us.map nv).take i).sum))), some (.d (frQ ((us.map pv).take i).sum)), o6, none, none], [], 0⟩, ⟨none, ?_⟩, ?_, ?_⟩
    · rw [List.take_zero, List.take_zero, List.sum_nil, show rent - 0 = rent by grind]
      rfl
    · rintro i v s' hi ⟨d, hd, rfl⟩ ⟨o6, rfl⟩
      rw [List.getElem?_map] at hd
      have hi2 : i < zs.length := by simpa using hi
      have hx : zs[i]? = some zs[i] := List.getElem?_eq_getElem hi2
      rw [hx] at hd
      cases hd
      obtain ⟨r, hr, rn, rv, rl⟩ := h.name hz (List.mem_of_getElem? hx)
      have hux : us[i]? = some (due1 pr r) := by rw [← hU, List.getElem?_map, hx, ← rv]; rfl
      have hq1 : (us.map nv)[i]? = some (nv (due1 pr r)) := by rw [List.getElem?_map, hux]; rfl
      have hq2 : (us.map pv)[i]? = some (pv (due1 pr r)) := by rw [List.getElem?_map, hux]; rfl
      have hdq : QB 105 (due1 pr r) := (h.due hr).QB (by decide) (by decide)
      have hf := fu_QB hus hul qr i (by omega)
      have hw := wa_QB hus hul i (by omega)
      walk_at "st"
      refine jss_if ?_
      walk_at "go"
      refine jx_dct bx.hu rfl rfl rl ?_
      walk_at "go"
      refine ap_sign ?_
      walk_at "go"
      · rename_i hb
        have hb2 := sg_neg.mp hb
        have e1 : nv (due1 pr r) = due1 pr r := by unfold nv; rw [if_pos hb2]
        have e2 : pv (due1 pr r) = 0 := by unfold pv; rw [if_pos hb2]
        refine jx_dct bx.hu rfl rfl rl ?_
        walk_at "go"
        refine ap_op 240 105 hf hdq (by decide) (by decide) (by decide) trivial ?_
        walk_at "go"
        refine ⟨some (.d (.str zs[i])), ?_⟩
        rw [sum_take hq1, sum_take hq2, e1, e2, Rat.add_zero, show ∀ a b c : Rat, a - (b + c) = a - b - c by intro a b c; grind]
        rfl
      · rename_i hb
        have hb2 : ¬ (due1 pr r).num < 0 := fun z => hb (sg_neg.mpr z)
        have e1 : nv (due1 pr r) = 0 := by unfold nv; rw [if_neg hb2]
        have e2 : pv (due1 pr r) = due1 pr r := by unfold pv; rw [if_neg hb2]
        refine jx_dct bx.hu rfl rfl rl ?_
        walk_at "go"
        refine ap_op 109 105 hw hdq (by decide) (by decide) (by decide) trivial ?_
        walk_at "go"
        refine ⟨some (.d (.str zs[i])), ?_⟩
        rw [sum_take hq1, sum_take hq2, e1, e2, Rat.add_zero]
        rfl
    · rintro s' ⟨o6, rfl⟩
      have l1 : (zs.map D.str).length = (us.map nv).length := by rw [List.length_map, List.length_map, eul]
      have l2 : (zs.map D.str).length = (us.map pv).length := by rw [List.length_map, List.length_map, eul]
      rw [show ((us.map nv).take (zs.map D.str).length).sum = ((vF rs pr).map nv).sum by rw [l1, List.take_length]; exact perm_sum (hup.map _),
        show ((us.map pv).take (zs.map D.str).length).sum = ((vF rs pr).map pv).sum by rw [l2, List.take_length]; exact perm_sum (hup.map _)]
      show JSs X F _ ⟨[some (.d (rgsD rs)), some (.d (fmD frQ pr)), some (.d (frQ rent)), some (.d (fmD frQ (duF rs pr))), some (.d (frQ (fuV (vF rs pr) rent))), some (.d (frQ (waV (vF rs pr)))), o6, none, none], [], 0⟩ _
      have hf := fuV_QB h.vs hvl qr
      have hw := waV_QB h.vs hvl
      generalize hvs : vF rs pr = vs at hf hw k
      walk_at "go"
      refine ap_below 240 109 hf hw (by decide) (by decide) (by decide) ?_
      walk_at "go"
      · rename_i hb
        refine ap_op 240 109 hf hw (by decide) (by decide) (by decide) trivial ?_
        walk_at "go"
        have k2 := k (duF rs pr) ⟨by rw [hks], fun r hr => by rw [h.dget hr, hvs, pay_full hb]⟩
        unfold resV at k2
        rw [if_neg hb] at k2
        exact k2
      · rename_i hb
        have hwp := wa_pos rnn hb
        have hqt := QBover hf hw hwp
        refine ap_op 240 109 hf hw (by decide) (by decide) (by decide) hwp ?_
        refine rtX_P (rtΦ_dat ?_) rfl
        refine jss_cons (js_setDcP bx w8 (hX.loc (by decide +kernel)) (by rw [env_eq hX.eS]; rfl) (blk_ok hX (own := [("name", 6)]) (by decide +kernel)) (j := 6) (by decide) (fun Y hY => (hY.is hX).nmW rfl (by decide +kernel)) ?_ (by intro _; rfl))
        refine ji_lst (je_sortedD bx g_sorted ?_ (by intro _ _; rfl))
        walk_at "go"
        refine ⟨(duF rs pr).ks, _, rfl, by rw [hks, List.length_map]; omega, fun ys hy _ => ?_⟩
        rw [hks] at hy
        have yl : ys.length ≤ 24 := by rw [hy.length_eq, List.length_map]; exact hsz
        have ny : ys.Nodup := hy.nodup_iff.mpr h.nd
        refine ⟨_, rfl, rfl, by rw [List.length_map]; omega, fun i => .inr (ys.getD i ""), fun i => frQ (payV vs rent (val (duF rs pr) (ys.getD i ""))), ?_, ?_⟩
        · rintro i v hi ⟨d, hd, rfl⟩
          rw [List.getElem?_map] at hd
          have hi2 : i < ys.length := by simpa using hi
          rw [List.getElem?_eq_getElem hi2] at hd
          cases hd
          have eg : ys.getD i "" = ys[i] := by simp [List.getD, List.getElem?_eq_getElem hi2]
          obtain ⟨r, hr, rn, rv, rl⟩ := h.name hy (List.getElem_mem hi2)
          have hdq : QB 105 (due1 pr r) := (h.due hr).QB (by decide) (by decide)
          refine ⟨fun Y F hY => ?_, fun Y F hY => ?_⟩
          · have hYX := hY.is hX; have bY := hYX.bx; have r6Y := hYX.nmR (i := 6) (x := "name") rfl (by first | exact Or.inl (by decide +kernel) | exact Or.inr (Or.inl (by decide +kernel)) | exact Or.inr (Or.inr (by decide +kernel))); have e_times := c_times.at hYX (by decide +kernel); have r7Y := hYX.nmR (i := 7) (x := "part") rfl (by first | exact Or.inl (by decide +kernel) | exact Or.inr (Or.inl (by decide +kernel)) | exact Or.inr (Or.inr (by decide +kernel))); have r3Y := hYX.nmR (i := 3) (x := "found") rfl (by first | exact Or.inl (by decide +kernel) | exact Or.inr (Or.inl (by decide +kernel)) | exact Or.inr (Or.inr (by decide +kernel))); have e_sign := c_sign.at hYX (by decide +kernel)
            walk_at "go"
            exact ⟨by show _ = E.d (D.str (ys.getD i "")); rw [eg], rfl⟩
          · have hYX := hY.is hX; have bY := hYX.bx; have r6Y := hYX.nmR (i := 6) (x := "name") rfl (by first | exact Or.inl (by decide +kernel) | exact Or.inr (Or.inl (by decide +kernel)) | exact Or.inr (Or.inr (by decide +kernel))); have e_times := c_times.at hYX (by decide +kernel); have r7Y := hYX.nmR (i := 7) (x := "part") rfl (by first | exact Or.inl (by decide +kernel) | exact Or.inr (Or.inl (by decide +kernel)) | exact Or.inr (Or.inr (by decide +kernel))); have r3Y := hYX.nmR (i := 3) (x := "found") rfl (by first | exact Or.inl (by decide +kernel) | exact Or.inr (Or.inl (by decide +kernel)) | exact Or.inr (Or.inr (by decide +kernel))); have e_sign := c_sign.at hYX (by decide +kernel)
            walk_at "go"
            refine jx_dct bY.hu rfl rfl rl ?_
            walk_at "go"
            refine ap_sign ?_
            walk_at "go"
            · rename_i hp
              refine jx_dct bY.hu rfl rfl rl ?_
              walk_at "go"
              refine ap_op 105 349 hdq hqt (by decide) (by decide) (by decide) trivial ?_
              walk_at "go"
              refine ⟨?_, rfl⟩
              show _ = E.d (frQ (payV vs rent (val (duF rs pr) (ys.getD i ""))))
              rw [eg, rv]
              unfold payV
              rw [if_pos hb, if_pos (sg_pos.mp hp)]
            · rename_i hp
              refine jx_dct bY.hu rfl rfl rl ?_
              refine ⟨?_, rfl⟩
              show _ = E.d (frQ (payV vs rent (val (duF rs pr) (ys.getD i ""))))
              rw [eg, rv]
              unfold payV
              rw [if_pos hb, if_neg (fun z => hp (sg_pos.mpr z))]
        · rw [List.length_map, dcF_getD (g := (Sum.inr : Str → Key)) (f := fun y => frQ (payV vs rent (val (duF rs pr) y))) (nodup_inr ny)]
          dsimp only
          have eM : D.nd (.dct (ys.map Sum.inr)) (ys.map fun y => frQ (payV vs rent (val (duF rs pr) y))) = fmD frQ (ys.map fun y => (y, payV vs rent (val (duF rs pr) y))) := by
            unfold fmD fmK fmV FM.ks; simp only [List.map_map]; rfl
          rw [eM]
          have mk : FM.ks (ys.map fun y => (y, payV vs rent (val (duF rs pr) y))) = ys := by
            unfold FM.ks; rw [List.map_map]; exact List.map_id' _
          have k2 := k (ys.map fun y => (y, payV vs rent (val (duF rs pr) y))) ⟨by rw [mk]; exact hy, fun r hr => by
            obtain ⟨i, hi⟩ := List.getElem?_of_mem (hy.mem_iff.mpr (List.mem_map_of_mem (f := Rg.name) hr))
            rw [FM.get_at (p := (r.name, payV vs rent (val (duF rs pr) r.name))) (by rw [mk]; exact ny) (by rw [List.getElem?_map, hi]; rfl), h.dval hr, hvs]⟩
          unfold resV at k2
          rw [if_pos hb] at k2
          walk_at "go"
          exact k2
end
theorem Ok7.tget {rs : List Rg} {pr : FM Rat} (h : Ok7 rs pr) {i : Nat} {r : Rg} (hx : rs[i]? = some r) : (duF (rs.take (i + 1)) pr).get r.name = some (due1 pr r) := by
  have nd : ((rs.take (i + 1)).map Rg.name).Nodup := by rw [List.map_take]; exact h.nd.sublist (List.take_sublist _ _)
  exact FM.get_at (p := (r.name, due1 pr r)) (by rw [duF_eq nd]; unfold FM.ks; rw [List.map_map]; exact nd) (by rw [duF_eq nd, List.getElem?_map, List.getElem?_take, if_pos (Nat.lt_succ_self i), hx]; rfl)
theorem sub_num {x y : Rat} : 0 ≤ (x - y).num ↔ ¬ x < y := by
  rw [Rat.num_nonneg, Rat.not_lt, Rat.le_iff_sub_nonneg y x]
/-- some of the payments made -/
def stM (d : FM Rat) (g : Rat → Rat) (zs : List Str) : FM Rat := d.map fun p => (p.1, if p.1 ∈ zs then g p.2 else p.2)
theorem stM_ks (d : FM Rat) (g : Rat → Rat) (zs : List Str) : (stM d g zs).ks = d.ks := by
  unfold stM FM.ks; rw [List.map_map]; rfl
theorem stM_nil (d : FM Rat) (g : Rat → Rat) : stM d g [] = d := by
  unfold stM
  rw [List.map_congr_left (g := fun p => p) fun p _ => by rw [if_neg (by simp)], List.map_id']
theorem stM_get {d : FM Rat} {g : Rat → Rat} {zs : List Str} (nd : d.ks.Nodup) {y : Str} {v : Rat} (h : d.get y = some v) : (stM d g zs).get y = some (if y ∈ zs then g v else v) := by
  have hm : (y, v) ∈ d := FM.get_mem h
  exact FM.get_own (p := (y, if y ∈ zs then g v else v)) (by rw [stM_ks]; exact nd) (List.mem_map.mpr ⟨(y, v), hm, rfl⟩)
theorem stM_put {d : FM Rat} {g : Rat → Rat} {zs : List Str} (nd : d.ks.Nodup) {y : Str} {v : Rat} (h : d.get y = some v) : stM d g (zs ++ [y]) = (stM d g zs).put y (g v) := by
  have hm : (y, v) ∈ d := FM.get_mem h
  rw [FM.put_old (by rw [stM_ks]; exact List.mem_map.mpr ⟨_, hm, rfl⟩)]
  unfold stM
  rw [List.map_map]
  refine List.map_congr_left fun p hp => ?_
  have hg := FM.get_own nd hp
  simp only [Function.comp]
  by_cases e : p.1 = y
  · rw [if_pos e, if_pos (by simp [e])]
    rw [e, h] at hg
    cases hg; rfl
  · rw [if_neg e]
    by_cases q : p.1 ∈ zs
    · rw [if_pos q, if_pos (by simp [q])]
    · rw [if_neg q, if_neg (by simp [q, e])]
theorem stM_same {d : FM Rat} {g : Rat → Rat} {zs : List Str} (nd : d.ks.Nodup) {y : Str} {v : Rat} (h : d.get y = some v) (hg : g v = v) : stM d g (zs ++ [y]) = stM d g zs := by
  unfold stM
  refine List.map_congr_left fun p hp => ?_
  have hq := FM.get_own nd hp
  by_cases e : p.1 = y
  · rw [e, h] at hq
    cases hq
    rw [if_pos (by simp [e])]
    split
    · rfl
    · rw [hg]
  · by_cases q : p.1 ∈ zs
    · rw [if_pos q, if_pos (by simp [q])]
    · rw [if_neg q, if_neg (by simp [q, e])]
section
variable {P : Program} {w : World} {K : PySem.W.Frag} {mg : Str → Option Value} {base : Heap}
theorem ok_law_due {f : Addr} {fd : FuncData} (C : Bs2 mg) (c_law_mul : CaP P w K mg base "_law_mul" 3 R_mul) (c_law_sub : CaP P w K mg base "_law_sub" 3 R_less) (c_law_add : CaP P w K mg base "_law_add" 3 R_add) (c_law_div : CaP P w K mg base "_law_div" 3 R_over)
    (Fu : Fun K "_law_due" "_law_due" s_law_due f fd) : FnOk P w K mg base CX0 5 f fd ["rights", "prices", "rent"] (spP K R_paid) := by
  refine fn_P Fu sc_law_due (fun ds post h => ?_) fun X F ds post hX hfn hH h => ?_
  · obtain ⟨_, _, _, rfl, _⟩ := h
    rfl
  · obtain ⟨rs, pr, rent, rfl, h, qr, rnn, k⟩ := h
    have bx := hX.bx
    have r0 := hX.nmR (i := 0) (x := "rights") rfl (by first | exact Or.inl (by decide +kernel) | exact Or.inr (Or.inl (by decide +kernel))); have w0 := hX.nmW (i := 0) (x := "rights") rfl (by decide +kernel); have r1 := hX.nmR (i := 1) (x := "prices") rfl (by first | exact Or.inl (by decide +kernel) | exact Or.inr (Or.inl (by decide +kernel))); have w1 := hX.nmW (i := 1) (x := "prices") rfl (by decide +kernel); have r2 := hX.nmR (i := 2) (x := "rent") rfl (by first | exact Or.inl (by decide +kernel) | exact Or.inr (Or.inl (by decide +kernel))); have w2 := hX.nmW (i := 2) (x := "rent") rfl (by decide +kernel); have r3 := hX.nmR (i := 3) (x := "dues_v") rfl (by first | exact Or.inl (by decide +kernel) | exact Or.inr (Or.inl (by decide +kernel))); have w3 := hX.nmW (i := 3) (x := "dues_v") rfl (by decide +kernel); have r4 := hX.nmR (i := 4) (x := "fund") rfl (by first | exact Or.inl (by decide +kernel) | exact Or.inr (Or.inl (by decide +kernel))); have w4 := hX.nmW (i := 4) (x := "fund") rfl (by decide +kernel); have r5 := hX.nmR (i := 5) (x := "wanted") rfl (by first | exact Or.inl (by decide +kernel) | exact Or.inr (Or.inl (by decide +kernel))); have w5 := hX.nmW (i := 5) (x := "wanted") rfl (by decide +kernel); have r6 := hX.nmR (i := 6) (x := "name") rfl (by first | exact Or.inl (by decide +kernel) | exact Or.inr (Or.inl (by decide +kernel))); have w6 := hX.nmW (i := 6) (x := "name") rfl (by decide +kernel); have r7 := hX.nmR (i := 7) (x := "holder") rfl (by first | exact Or.inl (by decide +kernel) | exact Or.inr (Or.inl (by decide +kernel))); have w7 := hX.nmW (i := 7) (x := "holder") rfl (by decide +kernel); have r8 := hX.nmR (i := 8) (x := "source") rfl (by first | exact Or.inl (by decide +kernel) | exact Or.inr (Or.inl (by decide +kernel))); have w8 := hX.nmW (i := 8) (x := "source") rfl (by decide +kernel); have r9 := hX.nmR (i := 9) (x := "sink") rfl (by first | exact Or.inl (by decide +kernel) | exact Or.inr (Or.inl (by decide +kernel))); have w9 := hX.nmW (i := 9) (x := "sink") rfl (by decide +kernel); have r10 := hX.nmR (i := 10) (x := "amount") rfl (by first | exact Or.inl (by decide +kernel) | exact Or.inr (Or.inl (by decide +kernel))); have w10 := hX.nmW (i := 10) (x := "amount") rfl (by decide +kernel); have d_law_mul := c_law_mul.at hX (by decide +kernel); have d_law_sub := c_law_sub.at hX (by decide +kernel); have d_law_add := c_law_add.at hX (by decide +kernel); have g_sorted := hX.glb (x := "sorted") (by decide +kernel) C.b_sorted; have d_law_div := c_law_div.at hX (by decide +kernel)
    conv => (arg 3; whnf)
    have hsz := h.r.sz
    have hvl : (vF rs pr).length ≤ 24 := by rw [List.length_map]; exact hsz
    have hks := h.dks
    have hdn : (duF rs pr).ks.Nodup := by rw [hks]; exact h.nd
    have hdl : (duF rs pr).length ≤ 24 := by rw [← List.length_map (as := duF rs pr) (·.1)]; show (duF rs pr).ks.length ≤ 24; rw [hks, List.length_map]; exact hsz
    refine jss_set w3 (je_ownD (jn_dict0 ⟨[], rfl, ?_⟩)) (by rfl)
    walk_at "st"; walk_at "st"; walk_at "st"
    refine je_cut (e1 := .d (frQ 0)) (by walk_at "go"; exact ⟨rfl, rfl⟩) ?_
    refine jss_for bx (fun i s => ∃ o6 o7 o8 o9 o10, s = ⟨[some (.d (rgsD rs)), some (.d (fmD frQ pr)), some (.d (frQ rent)), some (.r 0), some (.d (frQ (rent - (((vF rs pr).map nv).take i).sum))), some (.d (frQ (((vF rs pr).map pv).take i).sum)), o6, o7, o8, o9, o10], [.nd (.dct (fmK (duF (rs.take i) pr))) ((fmV frQ (duF (rs.take i) pr)).map .d)], 0⟩) (ji_lst ?_) (by intro _; rfl)
    walk_at "go"
    refine ⟨⟨none, none, none, none, none, ?_⟩, ?_, ?_⟩
    · rw [List.take_zero, List.take_zero, List.sum_nil, show rent - 0 = rent by grind]
      rfl
    · rintro i v s' hi ⟨d, hd, rfl⟩ ⟨o6, o7, o8, o9, o10, rfl⟩
      rw [List.getElem?_map] at hd
      have hi2 : i < rs.length := by simpa using hi
      have hx : rs[i]? = some rs[i] := List.getElem?_eq_getElem hi2
      rw [hx] at hd
      cases hd
      have hm := List.mem_of_getElem? hx
      obtain ⟨a1, a2⟩ := h.p.get (h.p.src _ hm)
      obtain ⟨b1, b2⟩ := h.p.get (h.p.snk _ hm)
      obtain ⟨_, _, hil⟩ := duF_ok h.p h.r i (by omega)
      have hux : (vF rs pr)[i]? = some (due1 pr rs[i]) := by rw [List.getElem?_map, hx]; rfl
      have hq1 : ((vF rs pr).map nv)[i]? = some (nv (due1 pr rs[i])) := by rw [List.getElem?_map, hux]; rfl
      have hq2 : ((vF rs pr).map pv)[i]? = some (pv (due1 pr rs[i])) := by rw [List.getElem?_map, hux]; rfl
      have hdq : QB 105 (due1 pr rs[i]) := (h.due hm).QB (by decide) (by decide)
      have hf := fu_QB h.vs hvl qr i (by rw [List.length_map]; omega)
      have hw := wa_QB h.vs hvl i (by rw [List.length_map]; omega)
      have hl : lk ((fmK (duF (rs.take (i + 1)) pr)).zip ((fmV frQ (duF (rs.take (i + 1)) pr)).map E.d)) (.inr rs[i].name) = some (.d (frQ (due1 pr rs[i]))) := by rw [fm_lk, h.tget hx]; rfl
      walk_at "go"
      refine jx_dct bx.hu rfl rfl b2 ?_
      walk_at "go"
      refine jx_dct bx.hu rfl rfl a2 ?_
      walk_at "go"
      refine ap_op 40 40 b1 a1 (by decide) (by decide) (by decide) trivial ?_
      walk_at "go"
      refine ap_op 40 81 (h.r.ok _ hm) (b1.sub a1) (by decide) (by decide) (by decide) trivial ?_
      walk_at "go"
      refine .inr ⟨_, _, _, _, rfl, rfl, rfl, Nat.zero_le _, ?_, ?_⟩
      · rw [List.length_map, fmV_len, sizeLine_eq]; omega
      have e := duF_take (pr := pr) hx
      unfold due1 at e
      rw [fm_dpV (f := frQ), fm_dpK (m := duF (rs.take i) pr) (k := rs[i].name) (v := rs[i].amt * (val pr rs[i].snk - val pr rs[i].src)), ← e]
      refine jss_if ?_
      walk_at "go"
      refine jx_dct bx.hu rfl rfl hl ?_
      walk_at "go"
      · rename_i hb2
        have e1 : nv (due1 pr rs[i]) = due1 pr rs[i] := by unfold nv; rw [if_pos hb2]
        have e2 : pv (due1 pr rs[i]) = 0 := by unfold pv; rw [if_pos hb2]
        refine jx_dct bx.hu rfl rfl hl ?_
        walk_at "go"
        refine ap_op 240 105 hf hdq (by decide) (by decide) (by decide) trivial ?_
        walk_at "go"
        refine ⟨some (.d (.str rs[i].name)), some (.d (.str rs[i].holder)), some (.d (.str rs[i].src)), some (.d (.str rs[i].snk)), some (.d (frQ rs[i].amt)), ?_⟩
        rw [sum_take hq1, sum_take hq2, e1, e2, Rat.add_zero, show ∀ a b c : Rat, a - (b + c) = a - b - c by intro a b c; grind]
        rfl
      · rename_i hb2
        have e1 : nv (due1 pr rs[i]) = 0 := by unfold nv; rw [if_neg hb2]
        have e2 : pv (due1 pr rs[i]) = due1 pr rs[i] := by unfold pv; rw [if_neg hb2]
        refine jx_dct bx.hu rfl rfl hl ?_
        walk_at "go"
        refine ap_op 109 105 hw hdq (by decide) (by decide) (by decide) trivial ?_
        walk_at "go"
        refine ⟨some (.d (.str rs[i].name)), some (.d (.str rs[i].holder)), some (.d (.str rs[i].src)), some (.d (.str rs[i].snk)), some (.d (frQ rs[i].amt)), ?_⟩
        rw [sum_take hq1, sum_take hq2, e1, e2, Rat.add_zero]
        rfl
    · rintro s' ⟨o6, o7, o8, o9, o10, rfl⟩
      have l1 : (rs.map rgD).length = ((vF rs pr).map nv).length := by rw [List.length_map, List.length_map, List.length_map]
      have l2 : (rs.map rgD).length = ((vF rs pr).map pv).length := by rw [List.length_map, List.length_map, List.length_map]
      rw [show (((vF rs pr).map nv).take (rs.map rgD).length).sum = ((vF rs pr).map nv).sum by rw [l1, List.take_length],
        show (((vF rs pr).map pv).take (rs.map rgD).length).sum = ((vF rs pr).map pv).sum by rw [l2, List.take_length], List.length_map, List.take_length]
      show JSs X F _ ⟨[some (.d (rgsD rs)), some (.d (fmD frQ pr)), some (.d (frQ rent)), some (.r 0), some (.d (frQ (fuV (vF rs pr) rent))), some (.d (frQ (waV (vF rs pr)))), o6, o7, o8, o9, o10], [.nd (.dct (fmK (duF rs pr))) ((fmV frQ (duF rs pr)).map .d)], 0⟩ _
      have hf := fuV_QB h.vs hvl qr
      have hw := waV_QB h.vs hvl
      generalize hvs : vF rs pr = vs at hf hw k
      walk_at "go"
      refine ap_op 240 109 hf hw (by decide) (by decide) (by decide) trivial ?_
      iterate 7 walk_at "st"
      refine ite_dec (fun hb => ?_) (fun hb => ?_)
      · have hb2 := sub_num.mp hb
        refine je_tup (ja_cons (je_frz ?_) (by rfl))
        walk_at "st"
        refine ⟨0, .dct (fmK (duF rs pr)), _, fmV frQ (duF rs pr), rfl, rfl, dsOf_map _, (fun C fs z => by cases z), Nat.zero_le _, ?_⟩
        have ez : S.fz ⟨[some (.d (rgsD rs)), some (.d (fmD frQ pr)), some (.d (frQ rent)), some (.r 0), some (.d (frQ (fuV vs rent))), some (.d (frQ (waV vs))), o6, o7, o8, o9, o10], [.nd (.dct (fmK (duF rs pr))) ((fmV frQ (duF rs pr)).map .d)], 0⟩ 0 (.nd (.dct (fmK (duF rs pr))) (fmV frQ (duF rs pr))) = ⟨[some (.d (rgsD rs)), some (.d (fmD frQ pr)), some (.d (frQ rent)), some (.d (fmD frQ (duF rs pr))), some (.d (frQ (fuV vs rent))), some (.d (frQ (waV vs))), o6.map (E.fz 0 (fmD frQ (duF rs pr))), o7.map (E.fz 0 (fmD frQ (duF rs pr))), o8.map (E.fz 0 (fmD frQ (duF rs pr))), o9.map (E.fz 0 (fmD frQ (duF rs pr))), o10.map (E.fz 0 (fmD frQ (duF rs pr)))], [.gone], 0⟩ := rfl
        rw [ez]
        walk_at "go"
        refine ap_op 240 109 hf hw (by decide) (by decide) (by decide) trivial ?_
        walk_at "go"
        have k2 := k (duF rs pr) ⟨by rw [hks], fun r hr => by rw [h.dget hr, hvs, pay_full hb2]⟩
        unfold resV at k2
        rw [if_neg hb2] at k2
        exact k2
      · have hb2 : fuV vs rent < waV vs := Decidable.not_not.mp fun z => hb (sub_num.mpr z)
        have hwp := wa_pos rnn hb2
        refine jss_forE bx (ji_lst (je_sortedD bx g_sorted ?_ (by intro _ _; rfl))) (by intro _; rfl)
        walk_at "go"
        refine ⟨(duF rs pr).ks, _, rfl, by rw [hks, List.length_map]; omega, fun zs hz _ => ?_⟩
        have nz : zs.Nodup := hz.nodup_iff.mpr hdn
        refine ⟨_, rfl, fun i s => ∃ o6, s = ⟨[some (.d (rgsD rs)), some (.d (fmD frQ pr)), some (.d (frQ rent)), some (.r 0), some (.d (frQ (fuV vs rent))), some (.d (frQ (waV vs))), o6, o7, o8, o9, o10], [.nd (.dct (fmK (stM (duF rs pr) (payV vs rent) (zs.take i)))) ((fmV frQ (stM (duF rs pr) (payV vs rent) (zs.take i))).map .d)], 0⟩, ⟨o6, ?_⟩, ?_, ?_⟩
        · rw [List.take_zero, stM_nil]
        · rintro i v s' hi ⟨d, hd, rfl⟩ ⟨o6, rfl⟩
          rw [List.getElem?_map] at hd
          have hi2 : i < zs.length := by simpa using hi
          have hx : zs[i]? = some zs[i] := List.getElem?_eq_getElem hi2
          rw [hx] at hd
          cases hd
          rw [hks] at hz
          obtain ⟨r, hr, rn, rv, rl⟩ := h.name hz (List.mem_of_getElem? hx)
          have hdq : QB 105 (due1 pr r) := (h.due hr).QB (by decide) (by decide)
          have hg : (duF rs pr).get zs[i] = some (due1 pr r) := by rw [← rn]; exact h.dget hr
          have hl : lk ((fmK (stM (duF rs pr) (payV vs rent) (zs.take i))).zip ((fmV frQ (stM (duF rs pr) (payV vs rent) (zs.take i))).map E.d)) (.inr zs[i]) = some (.d (frQ (due1 pr r))) := by
            rw [fm_lk, stM_get hdn hg, if_neg (notin_take nz hx)]; rfl
          walk_at "go"
          refine jx_dct bx.hu rfl rfl hl ?_
          walk_at "go"
          · rename_i hp
            have hpay : payV vs rent (due1 pr r) = due1 pr r * fuV vs rent / waV vs := by
              unfold payV; rw [if_pos hb2, if_pos hp, Rat.div_def, Rat.div_def, Rat.mul_assoc]
            have hst := stM_put (g := payV vs rent) (zs := zs.take i) hdn hg
            have hln : (stM (duF rs pr) (payV vs rent) (zs.take i)).length ≤ 24 := by unfold stM; rw [List.length_map]; exact hdl
            refine jx_dct bx.hu rfl rfl hl ?_
            walk_at "go"
            refine ap_op 105 240 hdq hf (by decide) (by decide) (by decide) trivial ?_
            walk_at "go"
            refine ap_op 345 109 (hdq.mul hf) hw (by decide) (by decide) (by decide) (fun z => by rw [z] at hwp; exact absurd hwp (by decide)) ?_
            walk_at "go"
            refine .inr ⟨_, _, _, _, rfl, rfl, rfl, Nat.zero_le _, ?_, ?_⟩
            · rw [List.length_map, fmV_len, sizeLine_eq]; omega
            rw [fm_dpV (f := frQ), fm_dpK (m := stM (duF rs pr) (payV vs rent) (zs.take i)) (k := zs[i]) (v := due1 pr r * fuV vs rent / waV vs), ← hpay, ← hst, take_snoc hx]
            walk_at "go"
            exact ⟨_, rfl⟩
          · rename_i hp
            have hpay : payV vs rent (due1 pr r) = due1 pr r := by
              unfold payV; rw [if_pos hb2, if_neg hp]
            have hst := stM_same (g := payV vs rent) (zs := zs.take i) hdn hg hpay
            rw [take_snoc hx] at hst
            refine ⟨some (.d (.str zs[i])), ?_⟩
            rw [hst]
            rfl
        · rintro s' ⟨o6, rfl⟩
          rw [List.length_map, List.take_length]
          walk_at "st"
          refine je_tup (ja_cons (je_frz ?_) (by rfl))
          walk_at "st"
          refine ⟨0, .dct (fmK (stM (duF rs pr) (payV vs rent) zs)), _, fmV frQ (stM (duF rs pr) (payV vs rent) zs), rfl, rfl, dsOf_map _, (fun C fs z => by cases z), Nat.zero_le _, ?_⟩
          walk_at "go"
          have k2 := k (stM (duF rs pr) (payV vs rent) zs) ⟨by rw [stM_ks, hks], fun r hr => by
            rw [stM_get hdn (h.dget hr), if_pos (by rw [hz.mem_iff, hks]; exact List.mem_map_of_mem hr), hvs]⟩
          unfold resV at k2
          rw [if_pos hb2] at k2
          exact k2
end
theorem frQ_0 : D.nd .tup [.int 0, .int 1] = frQ 0 := rfl
theorem frQ_17 : D.nd .tup [.int 1, .int 7] = frQ (Rat.divInt 1 7) := by rw [← frQ_div (show (0 : Int) < 7 by decide)]; rfl
theorem frQ_m17 : D.nd .tup [.int (-1), .int 7] = frQ (Rat.divInt (-1) 7) := by rw [← frQ_div (show (0 : Int) < 7 by decide)]; rfl
theorem frQ_m2 : D.nd .tup [.int (-2), .int 1] = frQ ((-2 : Int) : Rat) := frQ_int _
def R_rdrawn : RC1 := fun kd cds ds post => kd = .lst ∧ PoolD cds ∧ ∃ (rs : List Rg) (pr : FM Rat), ds = [rgsD rs, fmD frQ pr] ∧ Ok7 rs pr ∧ ∀ (x : Rat) cds', QB 130 x → 0 ≤ x.num → PoolD cds' → post (.dat (frQ x)) .lst cds'
theorem ap_rdrawn {cds : List D} {rs : List Rg} {pr : FM Rat} {post : Rt → Kd → List D → Prop} (hp : PoolD cds) (h1 : Ok7 rs pr) (h : ∀ (x : Rat) cds', QB 130 x → 0 ≤ x.num → PoolD cds' → post (.dat (frQ x)) .lst cds') : R_rdrawn .lst cds [rgsD rs, fmD frQ pr] post := ⟨rfl, hp, rs, pr, rfl, h1, h⟩
theorem mo_rdrawn : MonoC R_rdrawn := fun kd cds ds p q m ⟨a, b, c, d, e, f, h⟩ => ⟨a, b, c, d, e, f, fun v r h1 h2 h3 => m _ _ _ (h v r h1 h2 h3)⟩
theorem QB_0 {k : Nat} (h : 0 < k) : QB k 0 := ⟨by show (0 : Int).natAbs < 2 ^ _; exact Nat.two_pow_pos _, by show 1 < 2 ^ _; exact Nat.one_lt_two_pow (by omega)⟩
theorem nn_div {a b : Int} (h1 : 0 ≤ a) (h2 : 0 ≤ b) : 0 ≤ (Rat.divInt a b).num := Rat.num_nonneg.mpr (Rat.divInt_nonneg h1 h2)
section
variable {P : Program} {w : World} {K : PySem.W.Frag} {mg : Str → Option Value} {base : Heap}
theorem ok_law_rent_drawn {f : Addr} {fd : FuncData} (C : Bs2 mg) (c_law_owed : CaP P w K mg base "_law_owed" 4 R_lowed) (c_law_draw : CaC P w K mg base "_law_draw" 3 R_draw) (c_law_pick : CaC P w K mg base "_law_pick" 4 R_pick) (c_law_ratio : CaP P w K mg base "_law_ratio" 2 R_ratQ) (c_law_add : CaP P w K mg base "_law_add" 3 R_add)
    (Fu : Fun K "_law_rent_drawn" "_law_rent_drawn" s_law_rent_drawn f fd) : FnOk P w K mg base CX0 5 f fd ["pool", "rights", "prices"] (spC K R_rdrawn) := by
  refine fn_C Fu sc_law_rent_drawn (fun kd cds ds post h => ?_) fun X F kd cds ds post hX hfn hH h => ?_
  · obtain ⟨_, _, _, _, rfl, _⟩ := h
    rfl
  · obtain ⟨rfl, hp, rs, pr, rfl, h, k⟩ := h
    have bx := hX.bx
    have r0 := hX.nmR (i := 0) (x := "pool") rfl (by first | exact Or.inl (by decide +kernel) | exact Or.inr (Or.inl (by decide +kernel))); have w0 := hX.nmW (i := 0) (x := "pool") rfl (by decide +kernel); have r1 := hX.nmR (i := 1) (x := "rights") rfl (by first | exact Or.inl (by decide +kernel) | exact Or.inr (Or.inl (by decide +kernel))); have w1 := hX.nmW (i := 1) (x := "rights") rfl (by decide +kernel); have r2 := hX.nmR (i := 2) (x := "prices") rfl (by first | exact Or.inl (by decide +kernel) | exact Or.inr (Or.inl (by decide +kernel))); have w2 := hX.nmW (i := 2) (x := "prices") rfl (by decide +kernel); have r3 := hX.nmR (i := 3) (x := "short") rfl (by first | exact Or.inl (by decide +kernel) | exact Or.inr (Or.inl (by decide +kernel))); have w3 := hX.nmW (i := 3) (x := "short") rfl (by decide +kernel); have r4 := hX.nmR (i := 4) (x := "way") rfl (by first | exact Or.inl (by decide +kernel) | exact Or.inr (Or.inl (by decide +kernel))); have w4 := hX.nmW (i := 4) (x := "way") rfl (by decide +kernel); have r5 := hX.nmR (i := 5) (x := "found") rfl (by first | exact Or.inl (by decide +kernel) | exact Or.inr (Or.inl (by decide +kernel))); have w5 := hX.nmW (i := 5) (x := "found") rfl (by decide +kernel); have d_law_owed := c_law_owed.at hX (by decide +kernel); have d_law_draw := c_law_draw.at hX (by decide +kernel); have d_law_pick := c_law_pick.at hX (by decide +kernel); have d_law_ratio := c_law_ratio.at hX (by decide +kernel); have d_law_add := c_law_add.at hX (by decide +kernel)
    conv => (arg 3; whnf)
    have hsz := h.r.sz
    have hlo : QB 109 (loF rs pr) := by
      have h1 := (sumN h.vs (vF rs pr).length (Nat.le_refl _)).mono (M := 24 * 2 ^ 104) (Nat.mul_le_mul_right _ (by rw [List.length_map]; omega))
      rw [List.take_length] at h1
      exact h1.QB (by decide) (by decide)
    have pk : ∀ {cds : List D} (u : Int), 0 ≤ u → u < 100 → PoolD cds → ∀ post2 : Rt → Kd → List D → Prop, (∀ x cds', QB 130 x → 0 ≤ x.num → PoolD cds' → post2 (.dat (frQ x)) .lst cds') → R_pick .lst cds [.nd .lst [.nd .tup [.int 0, .int 1], frQ (Rat.divInt u 3)]] post2 := fun u u0 u1 hp post2 hk =>
      ap_pick hp (.inl rfl) (by simp) (by simp) fun d cds' hd hp' => by
        simp only [List.mem_cons, List.not_mem_nil, or_false] at hd
        rcases hd with rfl | rfl
        · exact hk 0 _ (QB_0 (by decide)) (by decide) hp'
        · exact hk _ _ ((QB.div (k := 7) (by unfold Bd; omega) (by unfold Bd; decide) (by decide)).mono (by decide)) (nn_div u0 (by decide)) hp'
    generalize hlF : loF rs pr = lo at hlo
    walk_at "go"
    refine ap_lowed h.r h.p ?_
    rw [hlF]
    refine rtX_P (rtΦ_dat ?_) rfl
    walk_at "go"
    refine ap_draw hp (lim_of (by decide) (by decide)) fun v cds1 v0 v1 hp1 => ?_
    refine rtΦ_dat ?_
    walk_at "go"
    · refine ap_draw hp1 (lim_of (by decide) (by decide)) fun u cds2 u0 u1 hp2 => ?_
      refine rtΦ_dat ?_
      walk_at "go"
      refine ap_ratQ (by decide) (by unfold Bd; exact Nat.lt_of_lt_of_le (show u.natAbs < 2 ^ 7 by omega) (Nat.pow_le_pow_right (by decide) (by decide))) (by unfold Bd; exact Nat.lt_of_lt_of_le (show (3 : Int).natAbs < 2 ^ 7 by decide) (Nat.pow_le_pow_right (by decide) (by decide))) ?_
      walk_at "go"
      refine pk u u0 u1 hp2 _ fun x cds' h1 h2 h3 => ?_
      refine rtΦ_dat ?_
      exact ⟨.lst, _, _, rfl, dsOf_map _, k _ _ h1 h2 h3⟩
    · refine ap_draw hp1 (lim_of (by decide) (by decide)) fun u cds2 u0 u1 hp2 => ?_
      refine rtΦ_dat ?_
      walk_at "go"
      refine ap_ratQ (by decide) (by unfold Bd; exact Nat.lt_of_lt_of_le (show u.natAbs < 2 ^ 7 by omega) (Nat.pow_le_pow_right (by decide) (by decide))) (by unfold Bd; exact Nat.lt_of_lt_of_le (show (3 : Int).natAbs < 2 ^ 7 by decide) (Nat.pow_le_pow_right (by decide) (by decide))) ?_
      walk_at "go"
      refine pk u u0 u1 hp2 _ fun x cds' h1 h2 h3 => ?_
      refine rtΦ_dat ?_
      exact ⟨.lst, _, _, rfl, dsOf_map _, k _ _ h1 h2 h3⟩
    · refine ap_draw hp1 (lim_of (by decide) (by decide)) fun a cds2 a0 a1 hp2 => ?_
      refine rtΦ_dat ?_
      walk_at "go"
      refine ap_draw hp2 (lim_of (by decide) (by decide)) fun b cds3 b0 b1 hp3 => ?_
      refine rtΦ_dat ?_
      walk_at "go"
      have a1 : a < 1000000 := a1
      have q1 : Bd 40 a := by unfold Bd; omega
      have q2 : Bd 40 (1 + b) := by unfold Bd; omega
      refine ap_ratQ (by omega) (q1.mono (by decide)) (q2.mono (by decide)) ?_
      refine rtX_P (rtΦ_dat ?_) rfl
      exact ⟨.lst, _, _, rfl, dsOf_map _, k _ _ ((QB.div q1 q2 (by omega)).mono (by decide)) (nn_div a0 (by omega)) hp3⟩
    · refine ap_pick hp1 (.inl rfl) (by simp) (by simp) fun d cds2 hd hp2 => ?_
      refine rtΦ_dat ?_
      obtain ⟨x, rfl, qx⟩ : ∃ x : Rat, d = frQ x ∧ QB 3 x := by
        simp only [List.mem_cons, List.not_mem_nil, or_false] at hd
        rcases hd with rfl | rfl | rfl | rfl
        · exact ⟨0, frQ_0, QB_0 (by decide)⟩
        · exact ⟨_, frQ_17, QB.div (by unfold Bd; decide) (by unfold Bd; decide) (by decide)⟩
        · exact ⟨_, frQ_m17, QB.div (by unfold Bd; decide) (by unfold Bd; decide) (by decide)⟩
        · exact ⟨_, frQ_m2, QB_int (by unfold Bd; decide) (by decide)⟩
      walk_at "go"
      refine ap_op 109 3 hlo qx (by decide) (by decide) (by decide) trivial ?_
      have hx := (hlo.add qx).mono (show 109 + 3 + 1 ≤ 130 by decide)
      generalize lo + x = y at hx ⊢
      walk_at "go"
      · exact ⟨.lst, _, _, rfl, dsOf_map _, k _ _ hx (by assumption) hp2⟩
      · exact ⟨.lst, _, _, rfl, dsOf_map _, k _ _ (QB_0 (by decide)) (by decide) hp2⟩
end
def R_law : RP := fun ds post => ∃ ns : List Int, ds = [lsI ns] ∧ ns.length ≤ 63 ∧ post (.dat (.bl true))
theorem PaidOk.nd {rs : List Rg} {pr : FM Rat} {rent : Rat} {m : FM Rat} (h : Ok7 rs pr) (p : PaidOk rs pr rent m) : m.ks.Nodup := p.ks.nodup_iff.mpr h.nd
theorem PaidOk.at {rs : List Rg} {pr : FM Rat} {rent : Rat} {m : FM Rat} (h : Ok7 rs pr) (p : PaidOk rs pr rent m) {q : Str × Rat} (hq : q ∈ m) : ∃ r ∈ rs, r.name = q.1 ∧ val (duF rs pr) q.1 = due1 pr r ∧ q.2 = payV (vF rs pr) rent (due1 pr r) := by
  obtain ⟨r, hr, e, v, _⟩ := h.name p.ks (show q.1 ∈ m.ks from List.mem_map.mpr ⟨q, hq, rfl⟩)
  have h1 := FM.get_own (p.nd h) hq
  have h2 := p.get r hr
  rw [e, h1] at h2
  exact ⟨r, hr, e, v, Option.some.inj h2⟩
theorem PaidOk.vals {rs : List Rg} {pr : FM Rat} {rent : Rat} {m : FM Rat} (h : Ok7 rs pr) (p : PaidOk rs pr rent m) : m.map (·.2) = (m.ks.map (val (duF rs pr))).map (payV (vF rs pr) rent) := by
  unfold FM.ks
  rw [List.map_map, List.map_map]
  refine List.map_congr_left fun q hq => ?_
  obtain ⟨r, hr, e, v, w⟩ := p.at h hq
  show q.2 = payV _ _ (val _ q.1)
  rw [v, w]
theorem PaidOk.len {rs : List Rg} {pr : FM Rat} {rent : Rat} {m : FM Rat} (p : PaidOk rs pr rent m) : m.length = rs.length := by
  have := p.ks.length_eq
  rw [List.length_map, List.length_map] at this
  exact this
theorem Sm_paid {rs : List Rg} {pr : FM Rat} {rent r : Rat} {a d : FM Rat} (h : Ok7 rs pr) (pa : PaidOk rs pr rent a) (pd : PaidOk rs pr rent d) : Sm 5 (.nd .tup [fmD frQ a, frQ r]) (.nd .tup [fmD frQ d, frQ r]) := by
  refine ⟨_, rfl, rfl, by simp, fun i x y h1 h2 => ?_⟩
  match i, h1, h2 with
  | 0, h1, h2 =>
    cases h1; cases h2
    refine Sm_fm 1 (pd.nd h) (by rw [pd.len]; have := h.r.sz; omega) (by rw [pa.len, pd.len]) fun q hq => ?_
    obtain ⟨r, hr, e, v, w⟩ := pd.at h hq
    rw [← e, w]; exact pa.get r hr
  | 1, h1, h2 => cases h1; cases h2; exact Sm_frQ 2 _
  | n + 2, h1, h2 => cases h1
section
variable {P : Program} {w : World} {K : PySem.W.Frag} {mg : Str → Option Value} {base : Heap}
theorem ok_law {f : Addr} {fd : FuncData} (C : Bs2 mg) (c_law_pool : CaP P w K mg base "_law_pool" 3 R_pool) (c_law_draw : CaC P w K mg base "_law_draw" 3 R_draw) (c_law_next : CaC P w K mg base "_law_next" 3 R_next) (c_law_places : CaC P w K mg base "_law_places" 6 R_places) (c_law_rights : CaC P w K mg base "_law_rights" 6 R_rights) (c_law_price : CaC P w K mg base "_law_price" 5 R_price) (c_law_rent_drawn : CaC P w K mg base "_law_rent_drawn" 5 R_rdrawn)
    (c_paid : CaP P w K mg base "paid" 5 R_paid) (c_law_due : CaP P w K mg base "_law_due" 5 R_paid) (c_law_same : CaP P w K mg base "_law_same" 5 (R_same 5)) (c_law_add : CaP P w K mg base "_law_add" 3 R_add) (Fu : Fun K "law" "law" s_law f fd) : FnOk P w K mg base CX0 7 f fd ["script"] (spP K R_law) := by
  refine fn_P Fu sc_law (fun ds post h => ?_) fun X F ds post hX hfn hH h => ?_
  · obtain ⟨_, rfl, _⟩ := h
    rfl
  · obtain ⟨ns, rfl, hns, k⟩ := h
    have bx := hX.bx
    have r0 := hX.nmR (i := 0) (x := "script") rfl (by first | exact Or.inl (by decide +kernel) | exact Or.inr (Or.inl (by decide +kernel))); have w0 := hX.nmW (i := 0) (x := "script") rfl (by decide +kernel); have r1 := hX.nmR (i := 1) (x := "pool") rfl (by first | exact Or.inl (by decide +kernel) | exact Or.inr (Or.inl (by decide +kernel))); have w1 := hX.nmW (i := 1) (x := "pool") rfl (by decide +kernel); have r2 := hX.nmR (i := 2) (x := "places") rfl (by first | exact Or.inl (by decide +kernel) | exact Or.inr (Or.inl (by decide +kernel))); have w2 := hX.nmW (i := 2) (x := "places") rfl (by decide +kernel); have r3 := hX.nmR (i := 3) (x := "rights") rfl (by first | exact Or.inl (by decide +kernel) | exact Or.inr (Or.inl (by decide +kernel))); have w3 := hX.nmW (i := 3) (x := "rights") rfl (by decide +kernel); have r4 := hX.nmR (i := 4) (x := "turn") rfl (by first | exact Or.inl (by decide +kernel) | exact Or.inr (Or.inl (by decide +kernel))); have w4 := hX.nmW (i := 4) (x := "turn") rfl (by decide +kernel); have r5 := hX.nmR (i := 5) (x := "prices") rfl (by first | exact Or.inl (by decide +kernel) | exact Or.inr (Or.inl (by decide +kernel))); have w5 := hX.nmW (i := 5) (x := "prices") rfl (by decide +kernel); have r6 := hX.nmR (i := 6) (x := "place") rfl (by first | exact Or.inl (by decide +kernel) | exact Or.inr (Or.inl (by decide +kernel))); have w6 := hX.nmW (i := 6) (x := "place") rfl (by decide +kernel); have r7 := hX.nmR (i := 7) (x := "rent") rfl (by first | exact Or.inl (by decide +kernel) | exact Or.inr (Or.inl (by decide +kernel))); have w7 := hX.nmW (i := 7) (x := "rent") rfl (by decide +kernel); have r8 := hX.nmR (i := 8) (x := "passed") rfl (by first | exact Or.inl (by decide +kernel) | exact Or.inr (Or.inl (by decide +kernel))); have w8 := hX.nmW (i := 8) (x := "passed") rfl (by decide +kernel); have r9 := hX.nmR (i := 9) (x := "told") rfl (by first | exact Or.inl (by decide +kernel) | exact Or.inr (Or.inl (by decide +kernel))); have w9 := hX.nmW (i := 9) (x := "told") rfl (by decide +kernel); have r10 := hX.nmR (i := 10) (x := "found") rfl (by first | exact Or.inl (by decide +kernel) | exact Or.inr (Or.inl (by decide +kernel))); have w10 := hX.nmW (i := 10) (x := "found") rfl (by decide +kernel); have r11 := hX.nmR (i := 11) (x := "name") rfl (by first | exact Or.inl (by decide +kernel) | exact Or.inr (Or.inl (by decide +kernel))); have w11 := hX.nmW (i := 11) (x := "name") rfl (by decide +kernel); have d_law_pool := c_law_pool.at hX (by decide +kernel); have d_law_places := c_law_places.at hX (by decide +kernel); have d_law_draw := c_law_draw.at hX (by decide +kernel); have d_law_rights := c_law_rights.at hX (by decide +kernel); have g_range := hX.glb (x := "range") (by decide +kernel) C.b_range; have d_law_next := c_law_next.at hX (by decide +kernel); have d_law_price := c_law_price.at hX (by decide +kernel); have d_law_rent_drawn := c_law_rent_drawn.at hX (by decide +kernel); have g_list := hX.glb (x := "list") (by decide +kernel) C.b_list; have g_dict := hX.glb (x := "dict") (by decide +kernel) C.b_dict; have d_paid := c_paid.at hX (by decide +kernel); have d_law_same := c_law_same.at hX (by decide +kernel); have d_law_due := c_law_due.at hX (by decide +kernel); have d_law_add := c_law_add.at hX (by decide +kernel)
    conv => (arg 3; whnf)
    walk_at "go"
    refine ap_pool fun cds hp => ?_
    refine rtX_P (rtΦ_new ?_) rfl
    walk_at "go"
    refine ap_draw hp (lim_of (by decide) (by decide)) fun v cds1 v0 v1 hp1 => ?_
    refine rtΦ_dat ?_
    walk_at "go"
    refine ap_places hp1 (by omega) (by omega) fun ts cds2 tn tl hp2 => ?_
    refine rtΦ_new ?_
    refine jss_frz' (k := 1) (kd := .lst) (ds := ts.map D.str) rfl (dsOf_map _) (fun C fs z => by cases z) (Nat.zero_le _) (s' := ⟨[some (.d (lsI ns)), some (.r 0), some (.d (.nd .lst (ts.map D.str))), none, none, none, none, none, none, none, none, none], [.nd .lst (cds2.map .d), .gone], 0⟩) ?_ ?_
    · rw [show entry N_law (List.map E.d [lsI ns]) [] 0 = ⟨[some (.d (lsI ns)), none, none, none, none, none, none, none, none, none, none, none], [], 0⟩ from rfl]
      simp only [S.fz, S.set, S.put, S.push, setN, List.map_cons, List.map_nil, List.cons_append, List.nil_append, List.length_cons, List.length_nil, Option.map_some, Option.map_none, Cell.fz, E.fz, fz_map]
      rfl
    have tl0 : 0 < ts.length := by omega
    have tl6 : ts.length ≤ 6 := by omega
    walk_at "st"; walk_at "st"; walk_at "st"; walk_at "st"; walk_at "st"; walk_at "st"
    refine ja_cons (JE.mono (Φ := fun v s1 => ∃ (m : Int) (cds3 : List D), v = .d (.int m) ∧ 0 ≤ m ∧ m ≤ 24 ∧ PoolD cds3 ∧ s1 = ⟨[some (.d (lsI ns)), some (.r 0), some (.d (.nd .lst (ts.map D.str))), none, none, none, none, none, none, none, none, none], [.nd .lst (cds3.map .d), .gone], 0⟩) ?_ ?_) (by rfl)
    · walk_at "go"
      refine ap_draw hp2 (lim_of (by decide) (by decide)) fun u cds3 u0 u1 hp3 => ?_
      refine rtΦ_dat ?_
      walk_at "go"
      · exact ⟨24, cds3, rfl, by decide, by decide, hp3, rfl⟩
      · exact ⟨8, cds3, rfl, by decide, by decide, hp3, rfl⟩
    rintro v s1 ⟨m, cds3, rfl, m0, m1, hp3, rfl⟩
    walk_at "go"
    refine ap_rights hp3 tl0 (by omega) m0 m1 fun rs cds4 rl rn ra hp4 => ?_
    refine rtΦ_new ?_
    refine jss_frz' (k := 2) (kd := .lst) (ds := rs.map rgD) rfl (dsOf_map _) (fun C fs z => by cases z) (Nat.zero_le _) (s' := ⟨[some (.d (lsI ns)), some (.r 0), some (.d (.nd .lst (ts.map D.str))), some (.d (rgsD rs)), none, none, none, none, none, none, none, none], [.nd .lst (cds4.map .d), .gone, .gone], 0⟩) ?_ ?_
    · simp only [S.fz, S.set, S.put, S.push, setN, List.map_cons, List.map_nil, List.cons_append, List.nil_append, List.length_cons, List.length_nil, Option.map_some, Option.map_none, Cell.fz, E.fz, fz_map]
      rfl
    have hrg : RgOk rs := ⟨by omega, fun r hr => (ra r hr).2.2.1⟩
    refine jss_for bx (fun i s => ∃ (cds : List D), PoolD cds ∧ s = ⟨[some (.d (lsI ns)), some (.r 0), some (.d (.nd .lst (ts.map D.str))), some (.d (rgsD rs)), none, none, none, none, none, none, none, none], [.nd .lst (cds.map .d), .gone, .gone], 0⟩) (ji_range1 g_range ?_) (by intro _; rfl)
    walk_at "go"
    refine ⟨by decide, ⟨cds4, hp4, rfl⟩, ?_, ?_⟩
    · rintro i0 e s' hi0 he ⟨cds, hp, rfl⟩
      obtain rfl : e = _ := he
      generalize (0 + (i0 : Int)) = tu
      walk_at "go"
      refine ap_next hp fun cds5 hp5 => ?_
      refine rtΦ_dat ?_
      refine jss_set w5 (je_ownD (jn_dict0 ⟨[], rfl, ?_⟩)) (by rfl)
      refine jss_for bx (fun i s => ∃ (cds : List D) (pr : FM Rat) (o6 : Option D), PoolD cds ∧ pr.ks = ts.take i ∧ pr.All (QB 40) ∧ pr.All PrN ∧ s = ⟨[some (.d (lsI ns)), some (.r 0), some (.d (.nd .lst (ts.map D.str))), some (.d (rgsD rs)), some (.d (.int tu)), some (.r 3), o6.map E.d, none, none, none, none, none], [.nd .lst (cds.map .d), .gone, .gone, .nd (.dct (fmK pr)) ((fmV frQ pr).map .d)], 0⟩) (ji_lst ?_) (by intro _; rfl)
      walk_at "go"
      refine ⟨⟨cds5, [], none, hp5, rfl, fun p hp => (by cases hp), fun p hp => (by cases hp), rfl⟩, ?_, ?_⟩
      · rintro i e s' hi ⟨d, hd, rfl⟩ ⟨cds, pr, o6, hp, hk, hA, hN, rfl⟩
        rw [List.getElem?_map] at hd
        have hi2 : i < ts.length := by simpa using hi
        have hx : ts[i]? = some ts[i] := List.getElem?_eq_getElem hi2
        rw [hx] at hd
        cases hd
        have pl : pr.length ≤ 6 := by
          have : pr.ks.length ≤ 6 := by rw [hk, List.length_take]; omega
          rw [List.length_map] at this; exact this
        walk_at "go"
        refine ap_price hp fun x cds' hx40 hxN hp' => ?_
        refine rtΦ_dat ?_
        walk_at "go"
        refine .inr ⟨_, _, _, _, rfl, rfl, rfl, Nat.zero_le _, ?_, ?_⟩
        · rw [List.length_map, fmV_len, sizeLine_eq]; omega
        rw [fm_dpV (f := frQ), fm_dpK (m := pr) (k := ts[i]) (v := x)]
        walk_at "go"
        refine ⟨cds', pr.put ts[i] x, some (.str ts[i]), hp', ?_, hA.put hx40, hN.put hxN, rfl⟩
        rw [FM.ks_put, hk, if_neg (notin_take tn hx), take_snoc hx]
      · rintro s' ⟨cds, pr, o6, hp, hk, hA, hN, rfl⟩
        rw [List.length_map, List.take_length] at hk
        refine jss_frz' (k := 3) (kd := .dct (fmK pr)) (ds := fmV frQ pr) rfl (dsOf_map _) (fun C fs z => by cases z) (Nat.zero_le _) (s' := ⟨[some (.d (lsI ns)), some (.r 0), some (.d (.nd .lst (ts.map D.str))), some (.d (rgsD rs)), some (.d (.int tu)), some (.d (fmD frQ pr)), o6.map E.d, none, none, none, none, none], [.nd .lst (cds.map .d), .gone, .gone, .gone], 0⟩) ?_ ?_
        · simp only [S.fz, S.set, S.put, S.push, setN, List.map_cons, List.map_nil, List.cons_append, List.nil_append, List.length_cons, List.length_nil, Option.map_some, Option.map_none, Cell.fz, E.fz, fz_map]
          cases o6 <;> rfl
        have hpr : PrOk rs pr := ⟨by rw [hk]; exact tn, hA, fun r hr => by rw [hk]; exact (ra r hr).1, fun r hr => by rw [hk]; exact (ra r hr).2.1⟩
        have pl : pr.length ≤ 6 := by
          have : pr.ks.length ≤ 6 := by rw [hk]; omega
          rw [List.length_map] at this; exact this
        have h : Ok7 rs pr := ⟨hrg, hpr, rn, fun r hr => (ra r hr).2.2.2, hN, pl⟩
        walk_at "go"
        refine ap_rdrawn hp h fun rent cds6 qr rnn hp6 => ?_
        refine rtΦ_dat ?_
        walk_at "go"
        refine ⟨_, _, rfl, .inl rfl, ?_⟩
        walk_at "go"
        refine ⟨_, _, rfl, ?_⟩
        walk_at "go"
        refine ap_paid h qr rnn fun m hm => ?_
        refine rtX_P (rtΦ_dat ?_) rfl
        walk_at "go"
        refine ap_paid h qr rnn fun m2 hm2 => ?_
        walk_at "go"
        refine ap_same (Sm_paid h hm hm2) ?_
        refine rtX_P (rtΦ_dat ?_) rfl
        walk_at "go"
        refine ap_same (Sm_lst_same (by simp) fun x hx => ?_) ?_
        · simp only [List.mem_cons, List.not_mem_nil, or_false] at hx
          rcases hx with rfl | rfl
          · exact Sm_rgs 0 hrg.sz
          · exact Sm_fm_same 1 hpr.nd (by omega)
        refine rtX_P (rtΦ_dat ?_) rfl
        walk_at "go"
        have hvl : (vF rs pr).length ≤ 24 := by rw [List.length_map]; omega
        have hml : m.length ≤ 24 := by rw [hm.len]; omega
        have hmv := hm.vals h
        have hup := h.vals hm.ks
        generalize hU : m.ks.map (val (duF rs pr)) = us at hmv hup
        have hul : us.length = m.length := by rw [← hU, List.length_map, List.length_map]
        have hus : ∀ v ∈ us, QN (2 ^ 104) v := fun v hv => h.vs v (hup.mem_iff.mp hv)
        refine jss_for bx (fun j s => ∃ o11, s = ⟨[some (.d (lsI ns)), some (.r 0), some (.d (.nd .lst (ts.map D.str))), some (.d (rgsD rs)), some (.d (.int tu)), some (.d (fmD frQ pr)), o6.map E.d, some (.d (frQ rent)), some (.d (.nd .lst [rgsD rs, fmD frQ pr])), some (.d (.nd .tup [fmD frQ m, frQ (resV (vF rs pr) rent)])), some (.d (frQ (resV (vF rs pr) rent + ((us.map (payV (vF rs pr) rent)).take j).sum))), o11], [.nd .lst (cds6.map .d), .gone, .gone, .gone], 0⟩) (ji_keys ?_) (by intro _; rfl)
        walk_at "go"
        refine ⟨_, _, rfl, ⟨none, ?_⟩, ?_, ?_⟩
        · rw [List.take_zero, List.sum_nil, Rat.add_zero]
          rfl
        · rintro j v s' hj ⟨d, hd, rfl⟩ ⟨o11, rfl⟩
          obtain ⟨p, hk2, rfl⟩ := fm_key hd
          rw [fmK_len] at hj
          have hl : lk ((fmK m).zip ((fmV frQ m).map E.d)) (.inr p.1) = some (.d (frQ p.2)) := by rw [fm_lk, FM.get_at (hm.nd h) hk2]; rfl
          have hq : (us.map (payV (vF rs pr) rent))[j]? = some p.2 := by rw [← hmv, List.getElem?_map, hk2]; rfl
          have hS := S_QB h.vs hvl hus (by omega) qr rnn j (by omega)
          have hP : QB 460 p.2 := by
            obtain ⟨r, hr, _, _, e⟩ := hm.at h (List.mem_of_getElem? hk2)
            rw [e]; exact pay_QB h.vs hvl qr rnn (h.due hr)
          walk_at "go"
          refine jx_dct bx.hu rfl rfl hl ?_
          walk_at "go"
          refine ap_op 920 460 hS hP (by decide) (by decide) (by decide) trivial ?_
          walk_at "go"
          refine ⟨some (.d (.str p.1)), ?_⟩
          rw [sum_take hq, show ∀ a b c : Rat, a + (b + c) = a + b + c by intro a b c; grind]
          rfl
        · rintro s' ⟨o11, rfl⟩
          have e1 : (fmK m).length = (us.map (payV (vF rs pr) rent)).length := by rw [fmK_len, List.length_map, hul]
          rw [e1, List.take_length, pay_sum rnn hup]
          iterate 6 walk_at "st"
          rw [if_neg (by simp)]
          · refine jss_end (s' := ⟨[some (.d (lsI ns)), some (.r 0), some (.d (.nd .lst (ts.map D.str))), some (.d (rgsD rs)), none, none, none, none, none, none, none, none], [.nd .lst (cds6.map .d), .gone, .gone], 0⟩) ?_ ?_ ?_ ?_
            · refine ⟨?_, rfl, ?_, rfl, Nat.zero_le _⟩
              · rintro i' e he
                match i', he with
                | 0, he => exact he
                | 1, he => exact he
                | 2, he => exact he
                | 3, he => exact he
                | 4, he => cases he
                | 5, he => cases he
                | 6, he => cases he
                | 7, he => cases he
                | 8, he => cases he
                | 9, he => cases he
                | 10, he => cases he
                | 11, he => cases he
                | n + 12, he => cases he
              · exact ⟨[.gone], rfl⟩
            · rfl
            · show ((cds6.map E.d).all (E.lt 3) && (true && (true && true))) = true
              rw [lt_ds]; rfl
            · exact ⟨cds6, hp6, rfl⟩
    · rintro s' ⟨cds, hp, rfl⟩
      walk_at "go"
      exact k
end
theorem fn_vac {P : Program} {w : World} {K : PySem.W.Frag} {mg : Str → Option Value} {base : Heap} {k : Nat} {f : Addr} {fd : FuncData} {ps : List Str} {R : RP} (h : ∀ ds post, R ds post → False) : FnOk P w K mg base CX0 k f fd ps (spP K R) :=
  ⟨fun vs H Q E ⟨_, _, _, _, z⟩ => (h _ _ z).elim, fun A outer s H args us vs Q E _ _ _ _ ⟨_, _, _, _, z⟩ => (h _ _ z).elim⟩
theorem law_sp {K : PySem.W.Frag} {H : Hp} {a : Addr} {ns : List Int} (hS : SqL K H a (ns.map V.int)) (hl : ns.length ≤ 63) : spP K R_law [.ref a] H (fun v _ => v = .bl true) fun _ _ _ => False :=
  ⟨H, [lsI ns], Same.refl _, .cons (.nd (k := .lst) hS (reps_ints ns)) .nil, ns, rfl, hl, fun v G' H' _ _ _ _ r => by cases r; rfl⟩
theorem all_mk {l : PySem.W.OpenLaw} {w : World} {K : PySem.W.Frag} {h : Heap} {mg : Str → Option Value} {fa f1 f2 f3 f4 f5 f6 f7 f8 f9 f10 f11 f12 f13 f14 f15 f16 f17 f18 f19 f20 f21 f22 f23 f24 f25 f26 f27 f28 f29 f30 f31 : Addr} (X : K.In h) (G : h.Ns mainGlobals mg) (hfa : mg "law" = some (.ref fa))
    {od1 an1 : Option Addr} {sl1 : Array (Option Value)} {oc1 kV1 dc1 pm1 cd1 ct1 : Value}
    {od2 an2 : Option Addr} {sl2 : Array (Option Value)} {oc2 kV2 dc2 pm2 cd2 ct2 : Value}
    {od3 an3 : Option Addr} {sl3 : Array (Option Value)} {oc3 kV3 dc3 pm3 cd3 ct3 : Value}
    {od4 an4 : Option Addr} {sl4 : Array (Option Value)} {oc4 kV4 dc4 pm4 cd4 ct4 : Value}
    {od5 an5 : Option Addr} {sl5 : Array (Option Value)} {oc5 kV5 dc5 pm5 cd5 ct5 : Value}
    {od6 an6 : Option Addr} {sl6 : Array (Option Value)} {oc6 kV6 dc6 pm6 cd6 ct6 : Value}
    {od7 an7 : Option Addr} {sl7 : Array (Option Value)} {oc7 kV7 dc7 pm7 cd7 ct7 : Value}
    {od8 an8 : Option Addr} {sl8 : Array (Option Value)} {oc8 kV8 dc8 pm8 cd8 ct8 : Value}
    {od9 an9 : Option Addr} {sl9 : Array (Option Value)} {oc9 kV9 dc9 pm9 cd9 ct9 : Value}
    {od10 an10 : Option Addr} {sl10 : Array (Option Value)} {oc10 kV10 dc10 pm10 cd10 ct10 : Value}
    {od11 an11 : Option Addr} {sl11 : Array (Option Value)} {oc11 kV11 dc11 pm11 cd11 ct11 : Value}
    {od12 an12 : Option Addr} {sl12 : Array (Option Value)} {oc12 kV12 dc12 pm12 cd12 ct12 : Value}
    {od13 an13 : Option Addr} {sl13 : Array (Option Value)} {oc13 kV13 dc13 pm13 cd13 ct13 : Value}
    {od14 an14 : Option Addr} {sl14 : Array (Option Value)} {oc14 kV14 dc14 pm14 cd14 ct14 : Value}
    {od15 an15 : Option Addr} {sl15 : Array (Option Value)} {oc15 kV15 dc15 pm15 cd15 ct15 : Value}
    {od16 an16 : Option Addr} {sl16 : Array (Option Value)} {oc16 kV16 dc16 pm16 cd16 ct16 : Value}
    {od17 an17 : Option Addr} {sl17 : Array (Option Value)} {oc17 kV17 dc17 pm17 cd17 ct17 : Value}
    {od18 an18 : Option Addr} {sl18 : Array (Option Value)} {oc18 kV18 dc18 pm18 cd18 ct18 : Value}
    {od19 an19 : Option Addr} {sl19 : Array (Option Value)} {oc19 kV19 dc19 pm19 cd19 ct19 : Value}
    {od20 an20 : Option Addr} {sl20 : Array (Option Value)} {oc20 kV20 dc20 pm20 cd20 ct20 : Value}
    {od21 an21 : Option Addr} {sl21 : Array (Option Value)} {oc21 kV21 dc21 pm21 cd21 ct21 : Value}
    {od22 an22 : Option Addr} {sl22 : Array (Option Value)} {oc22 kV22 dc22 pm22 cd22 ct22 : Value}
    {od23 an23 : Option Addr} {sl23 : Array (Option Value)} {oc23 kV23 dc23 pm23 cd23 ct23 : Value}
    {od24 an24 : Option Addr} {sl24 : Array (Option Value)} {oc24 kV24 dc24 pm24 cd24 ct24 : Value}
    {od25 an25 : Option Addr} {sl25 : Array (Option Value)} {oc25 kV25 dc25 pm25 cd25 ct25 : Value}
    {od26 an26 : Option Addr} {sl26 : Array (Option Value)} {oc26 kV26 dc26 pm26 cd26 ct26 : Value}
    {od27 an27 : Option Addr} {sl27 : Array (Option Value)} {oc27 kV27 dc27 pm27 cd27 ct27 : Value}
    {od28 an28 : Option Addr} {sl28 : Array (Option Value)} {oc28 kV28 dc28 pm28 cd28 ct28 : Value}
    {od29 an29 : Option Addr} {sl29 : Array (Option Value)} {oc29 kV29 dc29 pm29 cd29 ct29 : Value}
    {od30 an30 : Option Addr} {sl30 : Array (Option Value)} {oc30 kV30 dc30 pm30 cd30 ct30 : Value}
    {od31 an31 : Option Addr} {sl31 : Array (Option Value)} {oc31 kV31 dc31 pm31 cd31 ct31 : Value}
    {q_ZERO : Addr} {od_ZERO : Option Addr} {sl_ZERO : Array (Option Value)} {t1_ZERO t2_ZERO : Tok} {n_ZERO : Nat}
    (a1 : PySem.W.nsIn K mainGlobals "ratio" = some (some (.ref f1))) (l1 : K.lookup f1 = some ⟨oc1, od1, .func (PySem.W.fnOf "ratio" "ratio" (defArgs s_ratio) (defBody s_ratio) (defScope s_ratio) .none kV1 dc1 pm1 an1 cd1 ct1), sl1⟩) (c1 : PySem.W.codeIn K cd1 "ratio" = true) (k1 : PySem.W.keepIn K (.ref f1) = true)
    (a2 : PySem.W.nsIn K mainGlobals "added" = some (some (.ref f2))) (l2 : K.lookup f2 = some ⟨oc2, od2, .func (PySem.W.fnOf "added" "added" (defArgs s_added) (defBody s_added) (defScope s_added) .none kV2 dc2 pm2 an2 cd2 ct2), sl2⟩) (c2 : PySem.W.codeIn K cd2 "added" = true) (k2 : PySem.W.keepIn K (.ref f2) = true)
    (a3 : PySem.W.nsIn K mainGlobals "less" = some (some (.ref f3))) (l3 : K.lookup f3 = some ⟨oc3, od3, .func (PySem.W.fnOf "less" "less" (defArgs s_less) (defBody s_less) (defScope s_less) .none kV3 dc3 pm3 an3 cd3 ct3), sl3⟩) (c3 : PySem.W.codeIn K cd3 "less" = true) (k3 : PySem.W.keepIn K (.ref f3) = true)
    (a4 : PySem.W.nsIn K mainGlobals "times" = some (some (.ref f4))) (l4 : K.lookup f4 = some ⟨oc4, od4, .func (PySem.W.fnOf "times" "times" (defArgs s_times) (defBody s_times) (defScope s_times) .none kV4 dc4 pm4 an4 cd4 ct4), sl4⟩) (c4 : PySem.W.codeIn K cd4 "times" = true) (k4 : PySem.W.keepIn K (.ref f4) = true)
    (a5 : PySem.W.nsIn K mainGlobals "over" = some (some (.ref f5))) (l5 : K.lookup f5 = some ⟨oc5, od5, .func (PySem.W.fnOf "over" "over" (defArgs s_over) (defBody s_over) (defScope s_over) .none kV5 dc5 pm5 an5 cd5 ct5), sl5⟩) (c5 : PySem.W.codeIn K cd5 "over" = true) (k5 : PySem.W.keepIn K (.ref f5) = true)
    (a6 : PySem.W.nsIn K mainGlobals "sign" = some (some (.ref f6))) (l6 : K.lookup f6 = some ⟨oc6, od6, .func (PySem.W.fnOf "sign" "sign" (defArgs s_sign) (defBody s_sign) (defScope s_sign) .none kV6 dc6 pm6 an6 cd6 ct6), sl6⟩) (c6 : PySem.W.codeIn K cd6 "sign" = true) (k6 : PySem.W.keepIn K (.ref f6) = true)
    (a7 : PySem.W.nsIn K mainGlobals "below" = some (some (.ref f7))) (l7 : K.lookup f7 = some ⟨oc7, od7, .func (PySem.W.fnOf "below" "below" (defArgs s_below) (defBody s_below) (defScope s_below) .none kV7 dc7 pm7 an7 cd7 ct7), sl7⟩) (c7 : PySem.W.codeIn K cd7 "below" = true) (k7 : PySem.W.keepIn K (.ref f7) = true)
    (a8 : PySem.W.nsIn K mainGlobals "dues" = some (some (.ref f8))) (l8 : K.lookup f8 = some ⟨oc8, od8, .func (PySem.W.fnOf "dues" "dues" (defArgs s_dues) (defBody s_dues) (defScope s_dues) .none kV8 dc8 pm8 an8 cd8 ct8), sl8⟩) (c8 : PySem.W.codeIn K cd8 "dues" = true) (k8 : PySem.W.keepIn K (.ref f8) = true)
    (a9 : PySem.W.nsIn K mainGlobals "paid" = some (some (.ref f9))) (l9 : K.lookup f9 = some ⟨oc9, od9, .func (PySem.W.fnOf "paid" "paid" (defArgs s_paid) (defBody s_paid) (defScope s_paid) .none kV9 dc9 pm9 an9 cd9 ct9), sl9⟩) (c9 : PySem.W.codeIn K cd9 "paid" = true) (k9 : PySem.W.keepIn K (.ref f9) = true)
    (a10 : PySem.W.nsIn K mainGlobals "_law_mixed" = some (some (.ref f10))) (l10 : K.lookup f10 = some ⟨oc10, od10, .func (PySem.W.fnOf "_law_mixed" "_law_mixed" (defArgs s_law_mixed) (defBody s_law_mixed) (defScope s_law_mixed) .none kV10 dc10 pm10 an10 cd10 ct10), sl10⟩) (c10 : PySem.W.codeIn K cd10 "_law_mixed" = true) (k10 : PySem.W.keepIn K (.ref f10) = true)
    (a11 : PySem.W.nsIn K mainGlobals "_law_rest" = some (some (.ref f11))) (l11 : K.lookup f11 = some ⟨oc11, od11, .func (PySem.W.fnOf "_law_rest" "_law_rest" (defArgs s_law_rest) (defBody s_law_rest) (defScope s_law_rest) .none kV11 dc11 pm11 an11 cd11 ct11), sl11⟩) (c11 : PySem.W.codeIn K cd11 "_law_rest" = true) (k11 : PySem.W.keepIn K (.ref f11) = true)
    (a12 : PySem.W.nsIn K mainGlobals "_law_pool" = some (some (.ref f12))) (l12 : K.lookup f12 = some ⟨oc12, od12, .func (PySem.W.fnOf "_law_pool" "_law_pool" (defArgs s_law_pool) (defBody s_law_pool) (defScope s_law_pool) .none kV12 dc12 pm12 an12 cd12 ct12), sl12⟩) (c12 : PySem.W.codeIn K cd12 "_law_pool" = true) (k12 : PySem.W.keepIn K (.ref f12) = true)
    (a13 : PySem.W.nsIn K mainGlobals "_law_next" = some (some (.ref f13))) (l13 : K.lookup f13 = some ⟨oc13, od13, .func (PySem.W.fnOf "_law_next" "_law_next" (defArgs s_law_next) (defBody s_law_next) (defScope s_law_next) .none kV13 dc13 pm13 an13 cd13 ct13), sl13⟩) (c13 : PySem.W.codeIn K cd13 "_law_next" = true) (k13 : PySem.W.keepIn K (.ref f13) = true)
    (a14 : PySem.W.nsIn K mainGlobals "_law_draw" = some (some (.ref f14))) (l14 : K.lookup f14 = some ⟨oc14, od14, .func (PySem.W.fnOf "_law_draw" "_law_draw" (defArgs s_law_draw) (defBody s_law_draw) (defScope s_law_draw) .none kV14 dc14 pm14 an14 cd14 ct14), sl14⟩) (c14 : PySem.W.codeIn K cd14 "_law_draw" = true) (k14 : PySem.W.keepIn K (.ref f14) = true)
    (a15 : PySem.W.nsIn K mainGlobals "_law_pick" = some (some (.ref f15))) (l15 : K.lookup f15 = some ⟨oc15, od15, .func (PySem.W.fnOf "_law_pick" "_law_pick" (defArgs s_law_pick) (defBody s_law_pick) (defScope s_law_pick) .none kV15 dc15 pm15 an15 cd15 ct15), sl15⟩) (c15 : PySem.W.codeIn K cd15 "_law_pick" = true) (k15 : PySem.W.keepIn K (.ref f15) = true)
    (a16 : PySem.W.nsIn K mainGlobals "_law_same" = some (some (.ref f16))) (l16 : K.lookup f16 = some ⟨oc16, od16, .func (PySem.W.fnOf "_law_same" "_law_same" (defArgs s_law_same) (defBody s_law_same) (defScope s_law_same) .none kV16 dc16 pm16 an16 cd16 ct16), sl16⟩) (c16 : PySem.W.codeIn K cd16 "_law_same" = true) (k16 : PySem.W.keepIn K (.ref f16) = true)
    (a17 : PySem.W.nsIn K mainGlobals "_law_gcd" = some (some (.ref f17))) (l17 : K.lookup f17 = some ⟨oc17, od17, .func (PySem.W.fnOf "_law_gcd" "_law_gcd" (defArgs s_law_gcd) (defBody s_law_gcd) (defScope s_law_gcd) .none kV17 dc17 pm17 an17 cd17 ct17), sl17⟩) (c17 : PySem.W.codeIn K cd17 "_law_gcd" = true) (k17 : PySem.W.keepIn K (.ref f17) = true)
    (a18 : PySem.W.nsIn K mainGlobals "_law_ratio" = some (some (.ref f18))) (l18 : K.lookup f18 = some ⟨oc18, od18, .func (PySem.W.fnOf "_law_ratio" "_law_ratio" (defArgs s_law_ratio) (defBody s_law_ratio) (defScope s_law_ratio) .none kV18 dc18 pm18 an18 cd18 ct18), sl18⟩) (c18 : PySem.W.codeIn K cd18 "_law_ratio" = true) (k18 : PySem.W.keepIn K (.ref f18) = true)
    (a19 : PySem.W.nsIn K mainGlobals "_law_add" = some (some (.ref f19))) (l19 : K.lookup f19 = some ⟨oc19, od19, .func (PySem.W.fnOf "_law_add" "_law_add" (defArgs s_law_add) (defBody s_law_add) (defScope s_law_add) .none kV19 dc19 pm19 an19 cd19 ct19), sl19⟩) (c19 : PySem.W.codeIn K cd19 "_law_add" = true) (k19 : PySem.W.keepIn K (.ref f19) = true)
    (a20 : PySem.W.nsIn K mainGlobals "_law_sub" = some (some (.ref f20))) (l20 : K.lookup f20 = some ⟨oc20, od20, .func (PySem.W.fnOf "_law_sub" "_law_sub" (defArgs s_law_sub) (defBody s_law_sub) (defScope s_law_sub) .none kV20 dc20 pm20 an20 cd20 ct20), sl20⟩) (c20 : PySem.W.codeIn K cd20 "_law_sub" = true) (k20 : PySem.W.keepIn K (.ref f20) = true)
    (a21 : PySem.W.nsIn K mainGlobals "_law_mul" = some (some (.ref f21))) (l21 : K.lookup f21 = some ⟨oc21, od21, .func (PySem.W.fnOf "_law_mul" "_law_mul" (defArgs s_law_mul) (defBody s_law_mul) (defScope s_law_mul) .none kV21 dc21 pm21 an21 cd21 ct21), sl21⟩) (c21 : PySem.W.codeIn K cd21 "_law_mul" = true) (k21 : PySem.W.keepIn K (.ref f21) = true)
    (a22 : PySem.W.nsIn K mainGlobals "_law_div" = some (some (.ref f22))) (l22 : K.lookup f22 = some ⟨oc22, od22, .func (PySem.W.fnOf "_law_div" "_law_div" (defArgs s_law_div) (defBody s_law_div) (defScope s_law_div) .none kV22 dc22 pm22 an22 cd22 ct22), sl22⟩) (c22 : PySem.W.codeIn K cd22 "_law_div" = true) (k22 : PySem.W.keepIn K (.ref f22) = true)
    (a23 : PySem.W.nsIn K mainGlobals "_law_name" = some (some (.ref f23))) (l23 : K.lookup f23 = some ⟨oc23, od23, .func (PySem.W.fnOf "_law_name" "_law_name" (defArgs s_law_name) (defBody s_law_name) (defScope s_law_name) .none kV23 dc23 pm23 an23 cd23 ct23), sl23⟩) (c23 : PySem.W.codeIn K cd23 "_law_name" = true) (k23 : PySem.W.keepIn K (.ref f23) = true)
    (a24 : PySem.W.nsIn K mainGlobals "_law_fresh" = some (some (.ref f24))) (l24 : K.lookup f24 = some ⟨oc24, od24, .func (PySem.W.fnOf "_law_fresh" "_law_fresh" (defArgs s_law_fresh) (defBody s_law_fresh) (defScope s_law_fresh) .none kV24 dc24 pm24 an24 cd24 ct24), sl24⟩) (c24 : PySem.W.codeIn K cd24 "_law_fresh" = true) (k24 : PySem.W.keepIn K (.ref f24) = true)
    (a25 : PySem.W.nsIn K mainGlobals "_law_places" = some (some (.ref f25))) (l25 : K.lookup f25 = some ⟨oc25, od25, .func (PySem.W.fnOf "_law_places" "_law_places" (defArgs s_law_places) (defBody s_law_places) (defScope s_law_places) .none kV25 dc25 pm25 an25 cd25 ct25), sl25⟩) (c25 : PySem.W.codeIn K cd25 "_law_places" = true) (k25 : PySem.W.keepIn K (.ref f25) = true)
    (a26 : PySem.W.nsIn K mainGlobals "_law_price" = some (some (.ref f26))) (l26 : K.lookup f26 = some ⟨oc26, od26, .func (PySem.W.fnOf "_law_price" "_law_price" (defArgs s_law_price) (defBody s_law_price) (defScope s_law_price) .none kV26 dc26 pm26 an26 cd26 ct26), sl26⟩) (c26 : PySem.W.codeIn K cd26 "_law_price" = true) (k26 : PySem.W.keepIn K (.ref f26) = true)
    (a27 : PySem.W.nsIn K mainGlobals "_law_rights" = some (some (.ref f27))) (l27 : K.lookup f27 = some ⟨oc27, od27, .func (PySem.W.fnOf "_law_rights" "_law_rights" (defArgs s_law_rights) (defBody s_law_rights) (defScope s_law_rights) .none kV27 dc27 pm27 an27 cd27 ct27), sl27⟩) (c27 : PySem.W.codeIn K cd27 "_law_rights" = true) (k27 : PySem.W.keepIn K (.ref f27) = true)
    (a28 : PySem.W.nsIn K mainGlobals "_law_owed" = some (some (.ref f28))) (l28 : K.lookup f28 = some ⟨oc28, od28, .func (PySem.W.fnOf "_law_owed" "_law_owed" (defArgs s_law_owed) (defBody s_law_owed) (defScope s_law_owed) .none kV28 dc28 pm28 an28 cd28 ct28), sl28⟩) (c28 : PySem.W.codeIn K cd28 "_law_owed" = true) (k28 : PySem.W.keepIn K (.ref f28) = true)
    (a29 : PySem.W.nsIn K mainGlobals "_law_due" = some (some (.ref f29))) (l29 : K.lookup f29 = some ⟨oc29, od29, .func (PySem.W.fnOf "_law_due" "_law_due" (defArgs s_law_due) (defBody s_law_due) (defScope s_law_due) .none kV29 dc29 pm29 an29 cd29 ct29), sl29⟩) (c29 : PySem.W.codeIn K cd29 "_law_due" = true) (k29 : PySem.W.keepIn K (.ref f29) = true)
    (a30 : PySem.W.nsIn K mainGlobals "_law_rent_drawn" = some (some (.ref f30))) (l30 : K.lookup f30 = some ⟨oc30, od30, .func (PySem.W.fnOf "_law_rent_drawn" "_law_rent_drawn" (defArgs s_law_rent_drawn) (defBody s_law_rent_drawn) (defScope s_law_rent_drawn) .none kV30 dc30 pm30 an30 cd30 ct30), sl30⟩) (c30 : PySem.W.codeIn K cd30 "_law_rent_drawn" = true) (k30 : PySem.W.keepIn K (.ref f30) = true)
    (a31 : PySem.W.nsIn K mainGlobals "law" = some (some (.ref f31))) (l31 : K.lookup f31 = some ⟨oc31, od31, .func (PySem.W.fnOf "law" "law" (defArgs s_law) (defBody s_law) (defScope s_law) .none kV31 dc31 pm31 an31 cd31 ct31), sl31⟩) (c31 : PySem.W.codeIn K cd31 "law" = true) (k31 : PySem.W.keepIn K (.ref f31) = true)
    (z_ZERO : PySem.W.nsIn K mainGlobals "ZERO" = some (some (.ref q_ZERO))) (y_ZERO : K.lookup q_ZERO = some ⟨.type "tuple", od_ZERO, .seq #[.int 0 t1_ZERO, .int 1 t2_ZERO] n_ZERO, sl_ZERO⟩)
    (z_gcd : PySem.W.nsIn K mainGlobals "gcd" = some (some (.builtin "math.gcd")))
    (b_int : PySem.W.nsIn K mainGlobals "int" = some none)
    (b_len : PySem.W.nsIn K mainGlobals "len" = some none)
    (b_range : PySem.W.nsIn K mainGlobals "range" = some none)
    (b_abs : PySem.W.nsIn K mainGlobals "abs" = some none)
    (b_str : PySem.W.nsIn K mainGlobals "str" = some none)
    (b_isinstance : PySem.W.nsIn K mainGlobals "isinstance" = some none)
    (b_sorted : PySem.W.nsIn K mainGlobals "sorted" = some none)
    (b_tuple : PySem.W.nsIn K mainGlobals "tuple" = some none)
    (b_dict : PySem.W.nsIn K mainGlobals "dict" = some none)
    (b_list : PySem.W.nsIn K mainGlobals "list" = some none)
    (b_bool : PySem.W.nsIn K mainGlobals "bool" = some none)
    : ∃ fd : FuncData, (∀ (s : Shared) (v : Value), BindsTo s fd ⟨[v], []⟩ [("script", v)]) ∧ ∀ base : Heap, K.In base → base.Ns mainGlobals mg → FnOk l.prog w K mg base CX0 7 fa fd ["script"] (spP K R_law) := by
  have e := hfa.symm.trans (PySem.W.mg_of X G a31)
  cases e
  have F_ratio := fun_mk (st := s_ratio) l1 c1 k1
  have b_ratio := F_ratio.binds (ps := ["p", "q"]) fun _ _ _ _ _ _ us hl => match us, hl with | [_, _], _ => rfl
  have F_added := fun_mk (st := s_added) l2 c2 k2
  have b_added := F_added.binds (ps := ["one", "other"]) fun _ _ _ _ _ _ us hl => match us, hl with | [_, _], _ => rfl
  have F_less := fun_mk (st := s_less) l3 c3 k3
  have b_less := F_less.binds (ps := ["one", "other"]) fun _ _ _ _ _ _ us hl => match us, hl with | [_, _], _ => rfl
  have F_times := fun_mk (st := s_times) l4 c4 k4
  have b_times := F_times.binds (ps := ["one", "other"]) fun _ _ _ _ _ _ us hl => match us, hl with | [_, _], _ => rfl
  have F_over := fun_mk (st := s_over) l5 c5 k5
  have b_over := F_over.binds (ps := ["one", "other"]) fun _ _ _ _ _ _ us hl => match us, hl with | [_, _], _ => rfl
  have F_sign := fun_mk (st := s_sign) l6 c6 k6
  have b_sign := F_sign.binds (ps := ["one"]) fun _ _ _ _ _ _ us hl => match us, hl with | [_], _ => rfl
  have F_below := fun_mk (st := s_below) l7 c7 k7
  have b_below := F_below.binds (ps := ["one", "other"]) fun _ _ _ _ _ _ us hl => match us, hl with | [_, _], _ => rfl
  have F_dues := fun_mk (st := s_dues) l8 c8 k8
  have b_dues := F_dues.binds (ps := ["rights", "prices"]) fun _ _ _ _ _ _ us hl => match us, hl with | [_, _], _ => rfl
  have F_paid := fun_mk (st := s_paid) l9 c9 k9
  have b_paid := F_paid.binds (ps := ["rights", "prices", "rent"]) fun _ _ _ _ _ _ us hl => match us, hl with | [_, _, _], _ => rfl
  have F_law_mixed := fun_mk (st := s_law_mixed) l10 c10 k10
  have b_law_mixed := F_law_mixed.binds (ps := ["number", "place"]) fun _ _ _ _ _ _ us hl => match us, hl with | [_, _], _ => rfl
  have F_law_rest := fun_mk (st := s_law_rest) l11 c11 k11
  have b_law_rest := F_law_rest.binds (ps := ["script", "place", "fills"]) fun _ _ _ _ _ _ us hl => match us, hl with | [_, _, _], _ => rfl
  have F_law_pool := fun_mk (st := s_law_pool) l12 c12 k12
  have b_law_pool := F_law_pool.binds (ps := ["script"]) fun _ _ _ _ _ _ us hl => match us, hl with | [_], _ => rfl
  have F_law_next := fun_mk (st := s_law_next) l13 c13 k13
  have b_law_next := F_law_next.binds (ps := ["pool"]) fun _ _ _ _ _ _ us hl => match us, hl with | [_], _ => rfl
  have F_law_draw := fun_mk (st := s_law_draw) l14 c14 k14
  have b_law_draw := F_law_draw.binds (ps := ["pool", "limit"]) fun _ _ _ _ _ _ us hl => match us, hl with | [_, _], _ => rfl
  have F_law_pick := fun_mk (st := s_law_pick) l15 c15 k15
  have b_law_pick := F_law_pick.binds (ps := ["pool", "options"]) fun _ _ _ _ _ _ us hl => match us, hl with | [_, _], _ => rfl
  have F_law_same := fun_mk (st := s_law_same) l16 c16 k16
  have b_law_same := F_law_same.binds (ps := ["answer", "due"]) fun _ _ _ _ _ _ us hl => match us, hl with | [_, _], _ => rfl
  have F_law_gcd := fun_mk (st := s_law_gcd) l17 c17 k17
  have b_law_gcd := F_law_gcd.binds (ps := ["one", "other"]) fun _ _ _ _ _ _ us hl => match us, hl with | [_, _], _ => rfl
  have F_law_ratio := fun_mk (st := s_law_ratio) l18 c18 k18
  have b_law_ratio := F_law_ratio.binds (ps := ["p", "q"]) fun _ _ _ _ _ _ us hl => match us, hl with | [_, _], _ => rfl
  have F_law_add := fun_mk (st := s_law_add) l19 c19 k19
  have b_law_add := F_law_add.binds (ps := ["one", "other"]) fun _ _ _ _ _ _ us hl => match us, hl with | [_, _], _ => rfl
  have F_law_sub := fun_mk (st := s_law_sub) l20 c20 k20
  have b_law_sub := F_law_sub.binds (ps := ["one", "other"]) fun _ _ _ _ _ _ us hl => match us, hl with | [_, _], _ => rfl
  have F_law_mul := fun_mk (st := s_law_mul) l21 c21 k21
  have b_law_mul := F_law_mul.binds (ps := ["one", "other"]) fun _ _ _ _ _ _ us hl => match us, hl with | [_, _], _ => rfl
  have F_law_div := fun_mk (st := s_law_div) l22 c22 k22
  have b_law_div := F_law_div.binds (ps := ["one", "other"]) fun _ _ _ _ _ _ us hl => match us, hl with | [_, _], _ => rfl
  have F_law_name := fun_mk (st := s_law_name) l23 c23 k23
  have b_law_name := F_law_name.binds (ps := ["pool"]) fun _ _ _ _ _ _ us hl => match us, hl with | [_], _ => rfl
  have F_law_fresh := fun_mk (st := s_law_fresh) l24 c24 k24
  have b_law_fresh := F_law_fresh.binds (ps := ["pool", "taken"]) fun _ _ _ _ _ _ us hl => match us, hl with | [_, _], _ => rfl
  have F_law_places := fun_mk (st := s_law_places) l25 c25 k25
  have b_law_places := F_law_places.binds (ps := ["pool", "many"]) fun _ _ _ _ _ _ us hl => match us, hl with | [_, _], _ => rfl
  have F_law_price := fun_mk (st := s_law_price) l26 c26 k26
  have b_law_price := F_law_price.binds (ps := ["pool"]) fun _ _ _ _ _ _ us hl => match us, hl with | [_], _ => rfl
  have F_law_rights := fun_mk (st := s_law_rights) l27 c27 k27
  have b_law_rights := F_law_rights.binds (ps := ["pool", "places", "most"]) fun _ _ _ _ _ _ us hl => match us, hl with | [_, _, _], _ => rfl
  have F_law_owed := fun_mk (st := s_law_owed) l28 c28 k28
  have b_law_owed := F_law_owed.binds (ps := ["rights", "prices"]) fun _ _ _ _ _ _ us hl => match us, hl with | [_, _], _ => rfl
  have F_law_due := fun_mk (st := s_law_due) l29 c29 k29
  have b_law_due := F_law_due.binds (ps := ["rights", "prices", "rent"]) fun _ _ _ _ _ _ us hl => match us, hl with | [_, _, _], _ => rfl
  have F_law_rent_drawn := fun_mk (st := s_law_rent_drawn) l30 c30 k30
  have b_law_rent_drawn := F_law_rent_drawn.binds (ps := ["pool", "rights", "prices"]) fun _ _ _ _ _ _ us hl => match us, hl with | [_, _, _], _ => rfl
  have F_law := fun_mk (st := s_law) l31 c31 k31
  have b_law := F_law.binds (ps := ["script"]) fun _ _ _ _ _ _ us hl => match us, hl with | [_], _ => rfl
  have C : Bs2 mg := { b_int := PySem.W.mg_none_of X G b_int, b_len := PySem.W.mg_none_of X G b_len, b_range := PySem.W.mg_none_of X G b_range, b_abs := PySem.W.mg_none_of X G b_abs, b_str := PySem.W.mg_none_of X G b_str, b_isinstance := PySem.W.mg_none_of X G b_isinstance, b_sorted := PySem.W.mg_none_of X G b_sorted, b_tuple := PySem.W.mg_none_of X G b_tuple, b_dict := PySem.W.mg_none_of X G b_dict, b_list := PySem.W.mg_none_of X G b_list, b_bool := PySem.W.mg_none_of X G b_bool, k_gcd := PySem.W.mg_of X G z_gcd }
  refine ⟨PySem.W.fnOf "law" "law" (defArgs s_law) (defBody s_law) (defScope s_law) .none kV31 dc31 pm31 an31 cd31 ct31, fun s v => .of_eq rfl, fun base _ _ => ?_⟩
  have X0 := X
  have gZ_ZERO : ∀ {X : Cx} {N : List Str} {sc : Scope} {k : Nat}, XIs X l.prog w K mg base N sc k → sc.names.lookup ("ZERO" : Str) = some .globalImplicit → Gc X "ZERO" (.nd .tup [.int 0, .int 1]) := fun hX h => XIs.gcQ (PySem.W.mg_of X0 G z_ZERO) y_ZERO (by decide) hX h
  have c_ratio : CaP l.prog w K mg base "ratio" 2 R_ratP := ⟨mo_ratP, _, _, _, PySem.W.mg_of X G a1, k1, b_ratio, ok_ratio C F_ratio⟩
  have c_added : CaP l.prog w K mg base "added" 3 R_add := ⟨mo_op _ _, _, _, _, PySem.W.mg_of X G a2, k2, b_added, ok_added c_ratio F_added⟩
  have c_less : CaP l.prog w K mg base "less" 3 R_less := ⟨mo_op _ _, _, _, _, PySem.W.mg_of X G a3, k3, b_less, ok_less c_ratio F_less⟩
  have c_times : CaP l.prog w K mg base "times" 3 R_mul := ⟨mo_op _ _, _, _, _, PySem.W.mg_of X G a4, k4, b_times, ok_times c_ratio F_times⟩
  have c_over : CaP l.prog w K mg base "over" 3 R_overP := ⟨mo_op _ _, _, _, _, PySem.W.mg_of X G a5, k5, b_over, ok_over c_ratio F_over⟩
  have c_sign : CaP l.prog w K mg base "sign" 1 R_sign := ⟨mo_sign, _, _, _, PySem.W.mg_of X G a6, k6, b_sign, ok_sign F_sign⟩
  have c_below : CaP l.prog w K mg base "below" 1 R_below := ⟨mo_below, _, _, _, PySem.W.mg_of X G a7, k7, b_below, ok_below F_below⟩
  have c_dues : CaP l.prog w K mg base "dues" 4 R_dues := ⟨mo_dues, _, _, _, PySem.W.mg_of X G a8, k8, b_dues, ok_dues c_times c_less F_dues⟩
  have c_paid : CaP l.prog w K mg base "paid" 5 R_paid := ⟨mo_paid, _, _, _, PySem.W.mg_of X G a9, k9, b_paid, ok_paid C gZ_ZERO c_dues c_sign c_less c_added c_below c_over c_times F_paid⟩
  have c_law_mixed : CaP l.prog w K mg base "_law_mixed" 1 R_mixed := ⟨mo_mixed, _, _, _, PySem.W.mg_of X G a10, k10, b_law_mixed, ok_law_mixed C.toBs F_law_mixed⟩
  have c_law_rest : CaP l.prog w K mg base "_law_rest" 2 R_rest := ⟨mo_rest, _, _, _, PySem.W.mg_of X G a11, k11, b_law_rest, ok_law_rest C.toBs c_law_mixed F_law_rest⟩
  have c_law_pool : CaP l.prog w K mg base "_law_pool" 3 R_pool := ⟨mo_pool, _, _, _, PySem.W.mg_of X G a12, k12, b_law_pool, ok_law_pool C.toBs c_law_rest F_law_pool⟩
  have c_law_next : CaC l.prog w K mg base "_law_next" 3 R_next := ⟨mo_next, _, _, _, PySem.W.mg_of X G a13, k13, b_law_next, ok_law_next C.toBs c_law_rest F_law_next⟩
  have c_law_draw : CaC l.prog w K mg base "_law_draw" 3 R_draw := ⟨mo_draw, _, _, _, PySem.W.mg_of X G a14, k14, b_law_draw, ok_law_draw C.toBs c_law_rest F_law_draw⟩
  have c_law_pick : CaC l.prog w K mg base "_law_pick" 4 R_pick := ⟨mo_pick, _, _, _, PySem.W.mg_of X G a15, k15, b_law_pick, ok_law_pick C.toBs c_law_draw F_law_pick⟩
  have o_law_same : ∀ n, FnOk l.prog w K mg base CX0 n f16 _ ["answer", "due"] (spP K (R_same n)) := fun n => by
    induction n with
    | zero => exact fn_vac fun ds post hh => (by obtain ⟨_, _, _, z, _⟩ := hh; exact z)
    | succ n ih => exact step_same n C ⟨mo_same n, _, _, _, PySem.W.mg_of X G a16, k16, b_law_same, ih⟩ F_law_same
  have c_law_same : CaP l.prog w K mg base "_law_same" 5 (R_same 5) := ⟨mo_same 5, _, _, _, PySem.W.mg_of X G a16, k16, b_law_same, o_law_same 5⟩
  have c_law_gcd : CaP l.prog w K mg base "_law_gcd" 1 R_gcd := ⟨mo_gcd, _, _, _, PySem.W.mg_of X G a17, k17, b_law_gcd, ok_law_gcd C F_law_gcd⟩
  have c_law_ratio : CaP l.prog w K mg base "_law_ratio" 2 R_ratQ := ⟨mo_ratQ, _, _, _, PySem.W.mg_of X G a18, k18, b_law_ratio, ok_law_ratio C c_law_gcd F_law_ratio⟩
  have c_law_add : CaP l.prog w K mg base "_law_add" 3 R_add := ⟨mo_op _ _, _, _, _, PySem.W.mg_of X G a19, k19, b_law_add, ok_law_add c_law_ratio F_law_add⟩
  have c_law_sub : CaP l.prog w K mg base "_law_sub" 3 R_less := ⟨mo_op _ _, _, _, _, PySem.W.mg_of X G a20, k20, b_law_sub, ok_law_sub c_law_ratio F_law_sub⟩
  have c_law_mul : CaP l.prog w K mg base "_law_mul" 3 R_mul := ⟨mo_op _ _, _, _, _, PySem.W.mg_of X G a21, k21, b_law_mul, ok_law_mul c_law_ratio F_law_mul⟩
  have c_law_div : CaP l.prog w K mg base "_law_div" 3 R_over := ⟨mo_op _ _, _, _, _, PySem.W.mg_of X G a22, k22, b_law_div, ok_law_div c_law_ratio F_law_div⟩
  have c_law_name : CaC l.prog w K mg base "_law_name" 4 R_name := ⟨mo_name, _, _, _, PySem.W.mg_of X G a23, k23, b_law_name, ok_law_name C c_law_draw F_law_name⟩
  have c_law_fresh : CaS l.prog w K mg base "_law_fresh" 5 (RSn R_fresh) := ⟨mo_fresh.s, _, _, _, PySem.W.mg_of X G a24, k24, b_law_fresh, ok_law_fresh C c_law_name F_law_fresh⟩
  have c_law_places : CaC l.prog w K mg base "_law_places" 6 R_places := ⟨mo_places, _, _, _, PySem.W.mg_of X G a25, k25, b_law_places, ok_law_places C c_law_fresh F_law_places⟩
  have c_law_price : CaC l.prog w K mg base "_law_price" 5 R_price := ⟨mo_price, _, _, _, PySem.W.mg_of X G a26, k26, b_law_price, ok_law_price C c_law_draw c_law_pick c_law_ratio F_law_price⟩
  have c_law_rights : CaC l.prog w K mg base "_law_rights" 6 R_rights := ⟨mo_rights, _, _, _, PySem.W.mg_of X G a27, k27, b_law_rights, ok_law_rights C c_law_draw c_law_pick c_law_fresh c_law_div F_law_rights⟩
  have c_law_owed : CaP l.prog w K mg base "_law_owed" 4 R_lowed := ⟨mo_lowed, _, _, _, PySem.W.mg_of X G a28, k28, b_law_owed, ok_law_owed c_law_add c_law_sub c_law_mul F_law_owed⟩
  have c_law_due : CaP l.prog w K mg base "_law_due" 5 R_paid := ⟨mo_paid, _, _, _, PySem.W.mg_of X G a29, k29, b_law_due, ok_law_due C c_law_mul c_law_sub c_law_add c_law_div F_law_due⟩
  have c_law_rent_drawn : CaC l.prog w K mg base "_law_rent_drawn" 5 R_rdrawn := ⟨mo_rdrawn, _, _, _, PySem.W.mg_of X G a30, k30, b_law_rent_drawn, ok_law_rent_drawn C c_law_owed c_law_draw c_law_pick c_law_ratio c_law_add F_law_rent_drawn⟩
  exact ok_law C c_law_pool c_law_draw c_law_next c_law_places c_law_rights c_law_price c_law_rent_drawn c_paid c_law_due c_law_same c_law_add F_law
end W
open PySem PySem.W PyProof.Rows
set_option maxHeartbeats 0
theorem PySem.Challenge.cw_networth_k70_payment_of_rights_holds : PySem.Challenge.rw_networth_k70_payment_of_rights.Holds := by
  w_on; o_law; k_head; (case hw => w_witness2)
  k_fill
  refine L2.walk_of (l := PySem.Challenge.rw_networth_k70_payment_of_rights) (n := 63) (k := 7) (x := "script") (CX := fun _ => L2.CX0) (sp := fun w => DL.spP _ W.R_law) rfl (by decide) rfl ⟨rfl, by decide, by decide⟩ (fun w h Y => PySem.W.kIn_of Y) ?F (fun _ H a ns hl _ hS => W.law_sp hS hl) (fun _ _ _ _ _ h => h)
  case F =>
    intro w mg fa h KX G hmg
    refine' W.all_mk KX G hmg ?a1 ?l1 ?c1 ?k1 ?a2 ?l2 ?c2 ?k2 ?a3 ?l3 ?c3 ?k3 ?a4 ?l4 ?c4 ?k4 ?a5 ?l5 ?c5 ?k5 ?a6 ?l6 ?c6 ?k6 ?a7 ?l7 ?c7 ?k7 ?a8 ?l8 ?c8 ?k8 ?a9 ?l9 ?c9 ?k9 ?a10 ?l10 ?c10 ?k10 ?a11 ?l11 ?c11 ?k11 ?a12 ?l12 ?c12 ?k12 ?a13 ?l13 ?c13 ?k13 ?a14 ?l14 ?c14 ?k14 ?a15 ?l15 ?c15 ?k15 ?a16 ?l16 ?c16 ?k16 ?a17 ?l17 ?c17 ?k17 ?a18 ?l18 ?c18 ?k18 ?a19 ?l19 ?c19 ?k19 ?a20 ?l20 ?c20 ?k20 ?a21 ?l21 ?c21 ?k21 ?a22 ?l22 ?c22 ?k22 ?a23 ?l23 ?c23 ?k23 ?a24 ?l24 ?c24 ?k24 ?a25 ?l25 ?c25 ?k25 ?a26 ?l26 ?c26 ?k26 ?a27 ?l27 ?c27 ?k27 ?a28 ?l28 ?c28 ?k28 ?a29 ?l29 ?c29 ?k29 ?a30 ?l30 ?c30 ?k30 ?a31 ?l31 ?c31 ?k31 ?z_ZERO ?y_ZERO ?z_gcd ?b_int ?b_len ?b_range ?b_abs ?b_str ?b_isinstance ?b_sorted ?b_tuple ?b_dict ?b_list ?b_bool
    (case a1 => k_is)
    (case l1 => k_is)
    (case c1 => k_is)
    (case k1 => k_is)
    (case a2 => k_is)
    (case l2 => k_is)
    (case c2 => k_is)
    (case k2 => k_is)
    (case a3 => k_is)
    (case l3 => k_is)
    (case c3 => k_is)
    (case k3 => k_is)
    (case a4 => k_is)
    (case l4 => k_is)
    (case c4 => k_is)
    (case k4 => k_is)
    (case a5 => k_is)
    (case l5 => k_is)
    (case c5 => k_is)
    (case k5 => k_is)
    (case a6 => k_is)
    (case l6 => k_is)
    (case c6 => k_is)
    (case k6 => k_is)
    (case a7 => k_is)
    (case l7 => k_is)
    (case c7 => k_is)
    (case k7 => k_is)
    (case a8 => k_is)
    (case l8 => k_is)
    (case c8 => k_is)
    (case k8 => k_is)
    (case a9 => k_is)
    (case l9 => k_is)
    (case c9 => k_is)
    (case k9 => k_is)
    (case a10 => k_is)
    (case l10 => k_is)
    (case c10 => k_is)
    (case k10 => k_is)
    (case a11 => k_is)
    (case l11 => k_is)
    (case c11 => k_is)
    (case k11 => k_is)
    (case a12 => k_is)
    (case l12 => k_is)
    (case c12 => k_is)
    (case k12 => k_is)
    (case a13 => k_is)
    (case l13 => k_is)
    (case c13 => k_is)
    (case k13 => k_is)
    (case a14 => k_is)
    (case l14 => k_is)
    (case c14 => k_is)
    (case k14 => k_is)
    (case a15 => k_is)
    (case l15 => k_is)
    (case c15 => k_is)
    (case k15 => k_is)
    (case a16 => k_is)
    (case l16 => k_is)
    (case c16 => k_is)
    (case k16 => k_is)
    (case a17 => k_is)
    (case l17 => k_is)
    (case c17 => k_is)
    (case k17 => k_is)
    (case a18 => k_is)
    (case l18 => k_is)
    (case c18 => k_is)
    (case k18 => k_is)
    (case a19 => k_is)
    (case l19 => k_is)
    (case c19 => k_is)
    (case k19 => k_is)
    (case a20 => k_is)
    (case l20 => k_is)
    (case c20 => k_is)
    (case k20 => k_is)
    (case a21 => k_is)
    (case l21 => k_is)
    (case c21 => k_is)
    (case k21 => k_is)
    (case a22 => k_is)
    (case l22 => k_is)
    (case c22 => k_is)
    (case k22 => k_is)
    (case a23 => k_is)
    (case l23 => k_is)
    (case c23 => k_is)
    (case k23 => k_is)
    (case a24 => k_is)
    (case l24 => k_is)
    (case c24 => k_is)
    (case k24 => k_is)
    (case a25 => k_is)
    (case l25 => k_is)
    (case c25 => k_is)
    (case k25 => k_is)
    (case a26 => k_is)
    (case l26 => k_is)
    (case c26 => k_is)
    (case k26 => k_is)
    (case a27 => k_is)
    (case l27 => k_is)
    (case c27 => k_is)
    (case k27 => k_is)
    (case a28 => k_is)
    (case l28 => k_is)
    (case c28 => k_is)
    (case k28 => k_is)
    (case a29 => k_is)
    (case l29 => k_is)
    (case c29 => k_is)
    (case k29 => k_is)
    (case a30 => k_is)
    (case l30 => k_is)
    (case c30 => k_is)
    (case k30 => k_is)
    (case a31 => k_is)
    (case l31 => k_is)
    (case c31 => k_is)
    (case k31 => k_is)
    (case z_ZERO => k_is)
    (case y_ZERO => k_is)
    (case z_gcd => k_is)
    (case b_int => k_is)
    (case b_len => k_is)
    (case b_range => k_is)
    (case b_abs => k_is)
    (case b_str => k_is)
    (case b_isinstance => k_is)
    (case b_sorted => k_is)
    (case b_tuple => k_is)
    (case b_dict => k_is)
    (case b_list => k_is)
    (case b_bool => k_is)
