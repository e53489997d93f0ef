import PyProof.Rows.All
import Wide.All
import OpenK.AllK
import Wide.FinOn
import HandS.ForMost
import HandS.Wide
import HandS.Gcd
import HandS.DictComp
import HandS.IsInst
import HandS.Finally
import HandS.TryOnly
import HandS.Text
import HandS.More
import KE.GoesEnumKw
import PySem.Challenge.RW_networth_k05_papers_of_programs_judged
set_option Elab.async false
set_option linter.all false
set_option maxRecDepth 100000
set_option maxHeartbeats 4000000
/-! DL: data in place of heaps. A def's walk over data (D), frozen or owned. -/
namespace DL
open PySem PySem.Spec PyProof.Rows L2
inductive Kd where
  | tup | lst | dct (ks : List Key) | ins (C : Addr) (fs : List Str)
inductive D where
  | non | bl (b : Bool) | int (i : Int) | str (x : Str) | nd (k : Kd) (ds : List D)
def NodeAt (K : PySem.W.Frag) (G : Hp) (a : Addr) (vs : List V) : Kd → Prop
  | .tup => SqT K G a vs
  | .lst => SqL K G a vs
  | .dct ks => ks.length = vs.length ∧ ks.Nodup ∧ ∃ od, G a = some (.frz od (.dK (ks.zip vs)))
  | .ins C fs => fs.length = vs.length ∧ ∃ dx, G a = some (.ins C dx (fs.zip vs))
mutual
inductive Rep (K : PySem.W.Frag) (G : Hp) : V → D → Prop
  | non : Rep K G .non .non
  | bl (b : Bool) : Rep K G (.bl b) (.bl b)
  | int (i : Int) : Rep K G (.int i) (.int i)
  | str (x : Str) : Rep K G (.str x) (.str x)
  | nd {a : Addr} {vs : List V} {k : Kd} {ds : List D} : NodeAt K G a vs k → Reps K G vs ds → Rep K G (.ref a) (.nd k ds)
inductive Reps (K : PySem.W.Frag) (G : Hp) : List V → List D → Prop
  | nil : Reps K G [] []
  | cons {v : V} {d : D} {vs : List V} {ds : List D} : Rep K G v d → Reps K G vs ds → Reps K G (v :: vs) (d :: ds)
end
theorem SqT.mono {K : PySem.W.Frag} {G G' : Hp} {a : Addr} {xs : List V} (e : Same G G') (h : SqT K G a xs) : SqT K G' a xs := by
  rcases h with (h | ⟨o, h⟩) | h
  · exact .inl (.inl (e _ _ h))
  · exact .inl (.inr ⟨o, e _ _ h⟩)
  · exact .inr h
theorem NodeAt.mono {K : PySem.W.Frag} {G G' : Hp} {a : Addr} {vs : List V} (e : Same G G') : ∀ {k : Kd}, NodeAt K G a vs k → NodeAt K G' a vs k
  | .tup, h => SqT.mono e h
  | .lst, h => e.seq h
  | .dct ks, ⟨h1, h2, od, h3⟩ => ⟨h1, h2, od, e _ _ h3⟩
  | .ins C fs, ⟨h1, dx, h2⟩ => ⟨h1, dx, e _ _ h2⟩
mutual
theorem Rep.mono {K : PySem.W.Frag} {G G' : Hp} (e : Same G G') : ∀ {v : V} {d : D}, Rep K G v d → Rep K G' v d
  | _, _, .non => .non
  | _, _, .bl b => .bl b
  | _, _, .int i => .int i
  | _, _, .str x => .str x
  | _, _, .nd n r => .nd (n.mono e) (Reps.mono e r)
theorem Reps.mono {K : PySem.W.Frag} {G G' : Hp} (e : Same G G') : ∀ {vs : List V} {ds : List D}, Reps K G vs ds → Reps K G' vs ds
  | _, _, .nil => .nil
  | _, _, .cons h t => .cons (Rep.mono e h) (Reps.mono e t)
end
theorem Reps.length {K : PySem.W.Frag} {G : Hp} : ∀ {vs : List V} {ds : List D}, Reps K G vs ds → vs.length = ds.length
  | _, _, .nil => rfl
  | _, _, .cons _ t => by simp [Reps.length t]
theorem Reps.get {K : PySem.W.Frag} {G : Hp} : ∀ {vs : List V} {ds : List D} {i : Nat} {d : D}, Reps K G vs ds → ds[i]? = some d → ∃ v, vs[i]? = some v ∧ Rep K G v d
  | _, _, _, _, .nil, e => by simp at e
  | _, _, 0, _, .cons r _, e => by simp at e; subst e; exact ⟨_, rfl, r⟩
  | _, _, i + 1, _, .cons _ t, e => by
    obtain ⟨v, h1, h2⟩ := Reps.get (i := i) t (by simpa using e)
    exact ⟨v, by simpa using h1, h2⟩
theorem Reps.get' {K : PySem.W.Frag} {G : Hp} : ∀ {vs : List V} {ds : List D} {i : Nat} {v : V}, Reps K G vs ds → vs[i]? = some v → ∃ d, ds[i]? = some d ∧ Rep K G v d
  | _, _, _, _, .nil, e => by simp at e
  | _, _, 0, _, .cons r _, e => by simp at e; subst e; exact ⟨_, rfl, r⟩
  | _, _, i + 1, _, .cons _ t, e => by
    obtain ⟨v, h1, h2⟩ := Reps.get' (i := i) t (by simpa using e)
    exact ⟨v, by simpa using h1, h2⟩
theorem Reps.append {K : PySem.W.Frag} {G : Hp} : ∀ {vs ws : List V} {ds es : List D}, Reps K G vs ds → Reps K G ws es → Reps K G (vs ++ ws) (ds ++ es)
  | _, _, _, _, .nil, h => h
  | _, _, _, _, .cons r t, h => .cons r (Reps.append t h)
theorem Reps.take {K : PySem.W.Frag} {G : Hp} : ∀ {vs : List V} {ds : List D} (n : Nat), Reps K G vs ds → Reps K G (vs.take n) (ds.take n)
  | _, _, 0, _ => .nil
  | _, _, _ + 1, .nil => .nil
  | _, _, n + 1, .cons r t => .cons r (Reps.take n t)
theorem Reps.drop {K : PySem.W.Frag} {G : Hp} : ∀ {vs : List V} {ds : List D} (n : Nat), Reps K G vs ds → Reps K G (vs.drop n) (ds.drop n)
  | _, _, 0, r => r
  | _, _, _ + 1, .nil => .nil
  | _, _, n + 1, .cons _ t => Reps.drop n t
/-! ### values, cells, states -/
inductive E where
  | d (x : D) | r (k : Nat)
inductive Cell where
  | gone | nd (k : Kd) (es : List E)
/-- slots, cells; ar: as many of the first cells are the arguments' -/
structure S where
  sl : List (Option E)
  ce : List Cell
  ar : Nat := 0
def nth {α : Type} : List α → Nat → Option α
  | [], _ => none
  | x :: _, 0 => some x
  | _ :: r, n + 1 => nth r n
theorem nth_eq {α : Type} : ∀ (l : List α) (n : Nat), nth l n = l[n]?
  | [], n => by simp [nth]
  | x :: r, 0 => by simp [nth]
  | x :: r, n + 1 => by simp [nth, nth_eq r n]
def setN {α : Type} : List α → Nat → α → List α
  | [], _, _ => []
  | _ :: r, 0, y => y :: r
  | x :: r, n + 1, y => x :: setN r n y
theorem setN_eq {α : Type} : ∀ (l : List α) (n : Nat) (y : α), setN l n y = l.set n y
  | [], n, y => by simp [setN]
  | x :: r, 0, y => by simp [setN]
  | x :: r, n + 1, y => by simp [setN, setN_eq r n y]
abbrev VE (K : PySem.W.Frag) (G : Hp) (as : List Addr) (v : V) : E → Prop
  | .d x => Rep K G v x
  | .r k => ∃ a, as[k]? = some a ∧ v = .ref a
theorem pre_get {α : Type} {as as' : List α} (p : as <+: as') {k : Nat} {a : α} (h : as[k]? = some a) : as'[k]? = some a := by
  obtain ⟨t, rfl⟩ := p
  rw [List.getElem?_append_left (List.getElem?_eq_some_iff.mp h).1]
  exact h
theorem VE.mono {K : PySem.W.Frag} {G G' : Hp} {as as' : List Addr} (p : as <+: as') (e : Same G G') {v : V} : ∀ {x : E}, VE K G as v x → VE K G' as' v x
  | .d _, h => Rep.mono e h
  | .r _, ⟨a, h1, h2⟩ => ⟨a, pre_get p h1, h2⟩
abbrev VEs (K : PySem.W.Frag) (G : Hp) (as : List Addr) : List V → List E → Prop := Paired (VE K G as)
theorem VEs.mono {K : PySem.W.Frag} {G G' : Hp} {as as' : List Addr} (p : as <+: as') (e : Same G G') {vs : List V} {es : List E} (h : VEs K G as vs es) : VEs K G' as' vs es :=
  Paired.mapP h fun _ _ q => q.mono p e
theorem VEs.ofReps {K : PySem.W.Frag} {G : Hp} {as : List Addr} : ∀ {vs : List V} {ds : List D}, Reps K G vs ds → VEs K G as vs (ds.map .d)
  | _, _, .nil => .nil
  | _, _, .cons h t => .cons h (VEs.ofReps t)
theorem VEs.reps {K : PySem.W.Frag} {G : Hp} {as : List Addr} : ∀ {vs : List V} {ds : List D}, VEs K G as vs (ds.map .d) → Reps K G vs ds
  | [], [], _ => .nil
  | _ :: _, _ :: _, .cons h t => .cons h (VEs.reps t)
theorem VEs.get {K : PySem.W.Frag} {G : Hp} {as : List Addr} {vs : List V} {es : List E} {i : Nat} {v : V} (h : VEs K G as vs es) (e : vs[i]? = some v) : ∃ x, es[i]? = some x ∧ VE K G as v x := paired_get h e
theorem VEs.get' {K : PySem.W.Frag} {G : Hp} {as : List Addr} : ∀ {vs : List V} {es : List E} {i : Nat} {x : E}, VEs K G as vs es → es[i]? = some x → ∃ v, vs[i]? = some v ∧ VE K G as v x
  | _, _, _, _, .nil, e => by simp at e
  | _, _, 0, _, .cons r _, e => by simp at e; subst e; exact ⟨_, rfl, r⟩
  | _, _, i + 1, _, .cons _ t, e => by
    obtain ⟨v, h1, h2⟩ := VEs.get' (i := i) t (by simpa using e)
    exact ⟨v, by simpa using h1, h2⟩
def CellAt (H : Hp) (a : Addr) (vs : List V) : Kd → Prop
  | .tup => False
  | .lst => H a = some (.lst vs)
  | .dct ks => ks.length = vs.length ∧ ks.Nodup ∧ ∃ od, H a = some (.frz od (.dK (ks.zip vs)))
  | .ins C fs => fs.length = vs.length ∧ ∃ dx, H a = some (.ins C dx (fs.zip vs))
theorem CellAt.keep {H H' : Hp} {a : Addr} {vs : List V} (h : ∀ o, H a = some o → H' a = some o) : ∀ {k : Kd}, CellAt H a vs k → CellAt H' a vs k
  | .tup, x => x
  | .lst, x => h _ x
  | .dct ks, ⟨x1, x2, od, x3⟩ => ⟨x1, x2, od, h _ x3⟩
  | .ins C fs, ⟨x, dx, y⟩ => ⟨x, dx, h _ y⟩
theorem CellAt.some {H : Hp} {a : Addr} {vs : List V} : ∀ {k : Kd}, CellAt H a vs k → ∃ o, H a = some o
  | .tup, x => x.elim
  | .lst, x => ⟨_, x⟩
  | .dct ks, ⟨_, _, _, x⟩ => ⟨_, x⟩
  | .ins C fs, ⟨_, dx, y⟩ => ⟨_, y⟩
/-- a def's entry: what was frozen, the heap, the owned arguments; ow: the slots that own -/
structure Fr where
  G0 : Hp
  H0 : Hp
  A0 : List Addr
structure Cz (X : Cx) (F : Fr) (as : List Addr) (G H : Hp) (σ : L2.St) (s : S) : Prop where
  sub : Same G H
  base : Same F.G0 G
  new : ∀ b, F.G0 b = none → F.H0 b ≠ none → G b = none
  frame : ∀ b o, F.H0 b = some o → b ∉ F.A0 → H b = some o
  len : as.length = s.ce.length
  pre : F.A0 <+: as
  nd : as.Nodup
  own : ∀ (k : Nat) (a : Addr) (kd : Kd) (es : List E), as[k]? = some a → s.ce[k]? = some (.nd kd es) → G a = none
  fresh : ∀ a ∈ as, a ∈ F.A0 ∨ F.H0 a = none
  there : ∀ a ∈ as, H a ≠ none
  cells : ∀ (k : Nat) (kd : Kd) (es : List E), s.ce[k]? = some (.nd kd es) → ∃ a vs, as[k]? = some a ∧ CellAt H a vs kd ∧ VEs X.K G as vs es
  slots : ∀ (i : Nat) (e : E), s.sl[i]? = some (some e) → ∃ v, σ[i]? = some (some v) ∧ VE X.K G as v e
  slen : s.sl.length = σ.length
  har : F.A0.length = s.ar
/-- what an answer must bear: further owned addresses, more frozen -/
structure Ext (as as' : List Addr) (G G' : Hp) : Prop where
  pre : as <+: as'
  sub : Same G G'
theorem Ext.refl (as : List Addr) (G : Hp) : Ext as as G G := ⟨List.prefix_refl _, Same.refl _⟩
theorem Ext.trans {a b c : List Addr} {G1 G2 G3 : Hp} (x : Ext a b G1 G2) (y : Ext b c G2 G3) : Ext a c G1 G3 := ⟨x.pre.trans y.pre, x.sub.trans y.sub⟩
theorem Ext.ve {K : PySem.W.Frag} {a b : List Addr} {G G' : Hp} (x : Ext a b G G') {v : V} {e : E} (h : VE K G a v e) : VE K G' b v e := h.mono x.pre x.sub
theorem Ext.ves {K : PySem.W.Frag} {a b : List Addr} {G G' : Hp} (x : Ext a b G G') {v : List V} {e : List E} (h : VEs K G a v e) : VEs K G' b v e := h.mono x.pre x.sub
/-! ### what the code does, as readings -/
def semE (X : Cx) (e : Expr) : TE := fun σ H Q => ∀ pins s, Inv X pins σ H s → wpAny (model X.prog X.w) X.A (eval e X.env) (EP X pins σ Q) X.xe s
theorem pe_sem (X : Cx) (e : Expr) : PE X e (semE X e) := ⟨fun pins s σ H Q I h => h pins s I⟩
theorem PE.sem {X : Cx} {e : Expr} {t : TE} (h : PE X e t) {σ : L2.St} {H : Hp} {Q : VK} (q : t σ H Q) : semE X e σ H Q := fun pins s I => h.run pins s σ H Q I q
def semT (X : Cx) (e : Expr) : TT := fun σ H Q => ∀ pins s, Inv X pins σ H s → wpAny (model X.prog X.w) X.A (isTrue e X.env (eval e X.env)) (TP X pins σ Q) X.xe s
theorem pt_sem (X : Cx) (e : Expr) : PT X e (semT X e) := ⟨fun pins s σ H Q I h => h pins s I⟩
theorem PT.sem {X : Cx} {e : Expr} {t : TT} (h : PT X e t) {σ : L2.St} {H : Hp} {Q : Bool → Hp → Prop} (q : t σ H Q) : semT X e σ H Q := fun pins s I => h.run pins s σ H Q I q
def semW (X : Cx) (e : Expr) : TT := fun σ H Q => ∀ whole pins s, Inv X pins σ H s → wpAny (model X.prog X.w) X.A (isTrue e X.env whole) (TP X pins σ Q) X.xe s
theorem pw_sem (X : Cx) (e : Expr) : PW X e (semW X e) := ⟨fun wh pins s σ H Q I h => h wh pins s I⟩
theorem PW.sem {X : Cx} {e : Expr} {t : TT} (h : PW X e t) {σ : L2.St} {H : Hp} {Q : Bool → Hp → Prop} (q : t σ H Q) : semW X e σ H Q := fun wh pins s I => h.run wh pins s σ H Q I q
def semA (X : Cx) (es : List Expr) : TA := fun σ H Q => ∀ (pos : Pos) pins s, Inv X pins σ H s → wpAny (model X.prog X.w) X.A (spliced (backTo pos (starEach es X.env))) (AP X pins σ Q) X.xe s
theorem pa_sem (X : Cx) (es : List Expr) : PA X es (semA X es) := ⟨fun pos pins s σ H Q I h => h pos pins s I⟩
theorem PA.sem {X : Cx} {es : List Expr} {t : TA} (h : PA X es t) {σ : L2.St} {H : Hp} {Q : List V → Hp → Prop} (q : t σ H Q) : semA X es σ H Q := fun pos pins s I => h.run pos pins s σ H Q I q
def semS (X : Cx) (st : Stmt) : TS := fun D σ H => ∀ pins s, Inv X pins σ H s → wpAny (model X.prog X.w) X.A (exec st X.env) (SP X pins D) X.xe s
theorem ps_sem (X : Cx) (st : Stmt) : PS X st (semS X st) := ⟨fun pins s σ H D I h => h pins s I⟩
theorem PS.sem {X : Cx} {st : Stmt} {t : TS} (h : PS X st t) {σ : L2.St} {H : Hp} {D : Ends} (q : t D σ H) : semS X st D σ H := fun pins s I => h.run pins s σ H D I q
def semSs (X : Cx) (st : List Stmt) : TS := fun D σ H => ∀ pins s, Inv X pins σ H s → wpAny (model X.prog X.w) X.A (execs st X.env) (SP X pins D) X.xe s
theorem pss_sem (X : Cx) (st : List Stmt) : PSs X st (semSs X st) := ⟨fun pins s σ H D I h => h pins s I⟩
theorem PSs.sem {X : Cx} {st : List Stmt} {t : TS} (h : PSs X st t) {σ : L2.St} {H : Hp} {D : Ends} (q : t D σ H) : semSs X st D σ H := fun pins s I => h.run pins s σ H D I q
def semG (X : Cx) (tg : Expr) : TG := fun v σ H Q => ∀ pins s u, Inv X pins σ H s → RelV v u → wpAny (model X.prog X.w) X.A (assign tg X.env u) (fun _ s' => ∃ σ' H', Inv X pins σ' H' s' ∧ Q σ' H') X.xe s
theorem pg_sem (X : Cx) (tg : Expr) : PG X tg (semG X tg) := ⟨fun pins s σ H v u Q I r h => h pins s u I r⟩
theorem PG.sem {X : Cx} {tg : Expr} {t : TG} (h : PG X tg t) {v : V} {σ : L2.St} {H : Hp} {Q : L2.St → Hp → Prop} (q : t v σ H Q) : semG X tg v σ H Q := fun pins s u I r => h.run pins s σ H v u Q I r q
def semR2 (X : Cx) (f : Value → Value → Sem Value) : R2 := fun x y H Q => ∀ pins s σ v u, Inv X pins σ H s → RelV x v → RelV y u → wpAny (model X.prog X.w) X.A (f v u) (EP X pins σ Q) X.xe s
theorem op_sem (X : Cx) (f : Value → Value → Sem Value) : OpR X f (semR2 X f) := fun pins s σ H x y v u Q I rx ry h => h pins s σ v u I rx ry
/-! ### judgements over data -/
section
variable (X : Cx) (F : Fr)
def JE (e : Expr) (s : S) (Φ : E → S → Prop) : Prop := ∀ as G H σ (Q : VK), Cz X F as G H σ s →
  (∀ v as' G' H' e' s', Cz X F as' G' H' σ s' → Ext as as' G G' → VE X.K G' as' v e' → Φ e' s' → Q v H') → semE X e σ H Q
def JT (e : Expr) (s : S) (Φ : Bool → S → Prop) : Prop := ∀ as G H σ (Q : Bool → Hp → Prop), Cz X F as G H σ s →
  (∀ b as' G' H' s', Cz X F as' G' H' σ s' → Ext as as' G G' → Φ b s' → Q b H') → semT X e σ H Q
def JW (e : Expr) (s : S) (Φ : Bool → S → Prop) : Prop := ∀ as G H σ (Q : Bool → Hp → Prop), Cz X F as G H σ s →
  (∀ b as' G' H' s', Cz X F as' G' H' σ s' → Ext as as' G G' → Φ b s' → Q b H') → semW X e σ H Q
def JA (es : List Expr) (s : S) (Φ : List E → S → Prop) : Prop := ∀ as G H σ (Q : List V → Hp → Prop), Cz X F as G H σ s →
  (∀ vs as' G' H' es' s', Cz X F as' G' H' σ s' → Ext as as' G G' → VEs X.K G' as' vs es' → Φ es' s' → Q vs H') → semA X es σ H Q
/-- an operation on two values -/
def JR (f : Value → Value → Sem Value) (e1 e2 : E) (s : S) (Φ : E → S → Prop) : Prop := ∀ as G H σ x y (Q : VK), Cz X F as G H σ s → VE X.K G as x e1 → VE X.K G as y e2 →
  (∀ v as' G' H' e' s', Cz X F as' G' H' σ s' → Ext as as' G G' → VE X.K G' as' v e' → Φ e' s' → Q v H') → semR2 X f x y H Q
/-- an operation on one value, or several: what comes of them is wanted by r -/
def JV (r : List V → Hp → VK → Prop) (es : List E) (s : S) (Φ : E → S → Prop) : Prop := ∀ as G H σ vs (Q : VK), Cz X F as G H σ s → VEs X.K G as vs es →
  (∀ v as' G' H' e' s', Cz X F as' G' H' σ s' → Ext as as' G G' → VE X.K G' as' v e' → Φ e' s' → Q v H') → r vs H Q
/-- a store into a target -/
def JG (tg : Expr) (e : E) (s : S) (Φ : S → Prop) : Prop := ∀ as G H σ v (Q : L2.St → Hp → Prop), Cz X F as G H σ s → VE X.K G as v e →
  (∀ as' G' H' σ' s', Cz X F as' G' H' σ' s' → Ext as as' G G' → Φ s' → Q σ' H') → semG X tg v σ H Q
structure Po where
  nx : S → Prop
  rt : E → S → Prop
  bk : S → Prop := fun _ => False
  ct : S → Prop := fun _ => False
/-- the ends that a statement's state must reach, from as, G on -/
structure DOk (as : List Addr) (G : Hp) (P : Po) (D : Ends) : Prop where
  nx : ∀ as' G' H' σ' s', Cz X F as' G' H' σ' s' → Same G G' → P.nx s' → D.nx σ' H'
  rt : ∀ v as' G' H' σ' e' s', Cz X F as' G' H' σ' s' → Same G G' → VE X.K G' as' v e' → P.rt e' s' → D.rt v H'
  bk : ∀ as' G' H' σ' s', Cz X F as' G' H' σ' s' → Same G G' → P.bk s' → D.bk σ' H'
  ct : ∀ as' G' H' σ' s', Cz X F as' G' H' σ' s' → Same G G' → P.ct s' → D.ct σ' H'
def JS (st : Stmt) (s : S) (P : Po) : Prop := ∀ as G H σ D, Cz X F as G H σ s → DOk X F as G P D → semS X st D σ H
def JSs (st : List Stmt) (s : S) (P : Po) : Prop := ∀ as G H σ D, Cz X F as G H σ s → DOk X F as G P D → semSs X st D σ H
end
variable {X : Cx} {F : Fr} {s : S}
theorem DOk.ext {as as' : List Addr} {G G' : Hp} {P : Po} {D : Ends} (h : DOk X F as G P D) (x : Ext as as' G G') : DOk X F as' G' P D :=
  ⟨fun a b c d e f g i => h.nx a b c d e f (x.sub.trans g) i, fun v a b c d e f g i j k => h.rt v a b c d e f g (x.sub.trans i) j k, fun a b c d e f g i => h.bk a b c d e f (x.sub.trans g) i, fun a b c d e f g i => h.ct a b c d e f (x.sub.trans g) i⟩
theorem DOk.exs {as as' : List Addr} {G G' : Hp} {P : Po} {D : Ends} (h : DOk X F as G P D) (x : Same G G') : DOk X F as' G' P D :=
  ⟨fun a b c d e f g i => h.nx a b c d e f (x.trans g) i, fun v a b c d e f g i j k => h.rt v a b c d e f g (x.trans i) j k, fun a b c d e f g i => h.bk a b c d e f (x.trans g) i, fun a b c d e f g i => h.ct a b c d e f (x.trans g) i⟩
theorem JE.mono {e : Expr} {Φ Ψ : E → S → Prop} (h : JE X F e s Φ) (m : ∀ e s, Φ e s → Ψ e s) : JE X F e s Ψ := fun as G H σ Q c k => h as G H σ Q c fun v as' G' H' e' s' c' x ve q => k v as' G' H' e' s' c' x ve (m _ _ q)
theorem JSs.mono {e : List Stmt} {P P' : Po} (h : JSs X F e s P) (m1 : ∀ s, P.nx s → P'.nx s) (m2 : ∀ e s, P.rt e s → P'.rt e s) (m3 : ∀ s, P.bk s → P'.bk s) (m4 : ∀ s, P.ct s → P'.ct s) : JSs X F e s P' := fun as G H σ D c k =>
  h as G H σ D c ⟨fun a b c d e f g i => k.nx a b c d e f g (m1 _ i), fun v a b c d e f g i j q => k.rt v a b c d e f g i j (m2 _ _ q), fun a b c d e f g i => k.bk a b c d e f g (m3 _ i), fun a b c d e f g i => k.ct a b c d e f g (m4 _ i)⟩
/-! ### expressions -/
section
variable {e a b c : Expr} {es rest : List Expr} {Φ : E → S → Prop} {Ψ : Bool → S → Prop} {pos p : Pos}
/-- by a rule of the layer whose reading leaves the heap as it is -/
theorem je_of {t : TE} (h : PE X e t) (k : ∀ as G H σ (Q : VK), Cz X F as G H σ s → (∀ v as' G' H' e' s', Cz X F as' G' H' σ s' → Ext as as' G G' → VE X.K G' as' v e' → Φ e' s' → Q v H') → t σ H Q) : JE X F e s Φ :=
  fun as G H σ Q c q => PE.sem h (k as G H σ Q c q)
structure NmR (X : Cx) (i : Nat) (x : Str) : Prop where
  nm : X.N[i]? = some x
  vis : Vis X.env.scope x
  dbg : (x == ("__debug__" : Str)) = false
  cdt : (x == ("__classdict__" : Str)) = false
theorem je_name {i : Nat} {x : Str} {e' : E} (n : NmR X i x) (h : nth s.sl i = some (some e')) (q : Φ e' s) : JE X F (.Name x pos) s Φ :=
  je_of (pe_var n.nm n.vis n.dbg n.cdt) fun as G H σ Q c k => by
    rw [nth_eq] at h
    obtain ⟨v, h1, h2⟩ := c.slots i e' h
    exact ⟨v, h1, k v as G H e' s c (Ext.refl _ _) h2 q⟩
theorem je_int {i : Int} {j : Nat} (q : Φ (.d (.int i)) s) : JE X F (.Constant (.int i) j pos) s Φ := je_of pe_int fun as G H σ Q c k => k _ as G H _ s c (Ext.refl _ _) (Rep.int i) q
theorem je_bl {i : Bool} {j : Nat} (q : Φ (.d (.bl i)) s) : JE X F (.Constant (.bool i) j pos) s Φ := je_of pe_bl fun as G H σ Q c k => k _ as G H _ s c (Ext.refl _ _) (Rep.bl i) q
theorem je_non {j : Nat} (q : Φ (.d .non) s) : JE X F (.Constant .none j pos) s Φ := je_of pe_non fun as G H σ Q c k => k _ as G H _ s c (Ext.refl _ _) Rep.non q
theorem je_str {x : Str} {j : Nat} (q : Φ (.d (.str x)) s) : JE X F (.Constant (.str x) j pos) s Φ := je_of pe_str fun as G H σ Q c k => k _ as G H _ s c (Ext.refl _ _) (Rep.str x) q
/-- a module's constant -/
structure Gc (X : Cx) (x : Str) (d : D) : Prop where
  gl : Gl X x
  mg : ∃ v u, X.mg x = some u ∧ RelV v u ∧ Rep X.K (fun _ => none) v d
  dbg : (x == ("__debug__" : Str)) = false
theorem je_glob {x : Str} {d : D} (g : Gc X x d) (q : Φ (.d d) s) : JE X F (.Name x pos) s Φ := by
  obtain ⟨v, u, h1, h2, h3⟩ := g.mg
  exact je_of (pe_glob g.gl h1 h2 g.dbg) fun as G H σ Q c k => k _ as G H _ s c (Ext.refl _ _) (h3.mono (by intro _ _ z; cases z)) q
theorem je_bin {op : Operator} (h : JE X F a s fun e1 s1 => JE X F b s1 fun e2 s2 => JR X F (binaryOp op) e1 e2 s2 Φ) : JE X F (.BinOp a op b pos) s Φ :=
  je_of (pe_op (op_sem X _) (pe_sem X a) (pe_sem X b)) fun as G H σ Q c k => h as G H σ _ c fun v1 as1 G1 H1 e1 s1 c1 x1 ve1 h1 => h1 as1 G1 H1 σ _ c1 fun v2 as2 G2 H2 e2 s2 c2 x2 ve2 h2 =>
    h2 as2 G2 H2 σ _ _ Q c2 (x2.ve ve1) ve2 fun v as' G' H' e' s' c' x ve q => k v as' G' H' e' s' c' ((x1.trans x2).trans x) ve q
theorem je_cmp {op : CmpOp} (h : JE X F a s fun e1 s1 => JE X F b s1 fun e2 s2 => JR X F (compareOp op) e1 e2 s2 Φ) (hm : behindInMarks op b = false := by rfl) : JE X F (.Compare a [op] [b] pos) s Φ :=
  je_of (pe_cmpR (op_sem X _) (pe_sem X a) (pe_sem X b) hm) fun as G H σ Q c k => h as G H σ _ c fun v1 as1 G1 H1 e1 s1 c1 x1 ve1 h1 => h1 as1 G1 H1 σ _ c1 fun v2 as2 G2 H2 e2 s2 c2 x2 ve2 h2 =>
    h2 as2 G2 H2 σ _ _ Q c2 (x2.ve ve1) ve2 fun v as' G' H' e' s' c' x ve q => k v as' G' H' e' s' c' ((x1.trans x2).trans x) ve q
theorem jt_cmp {op : CmpOp} (h : JE X F a s fun e1 s1 => JE X F b s1 fun e2 s2 => JR X F (compareOp op) e1 e2 s2 fun e3 s3 => ∃ k, e3 = .d (.bl k) ∧ Ψ k s3) (hm : behindInMarks op b = false := by rfl) : JT X F (.Compare a [op] [b] pos) s Ψ :=
  fun as G H σ Q c k => PT.sem (pt_cmpR (op_sem X _) (pe_sem X a) (pe_sem X b) hm) (h as G H σ _ c fun v1 as1 G1 H1 e1 s1 c1 x1 ve1 h1 => h1 as1 G1 H1 σ _ c1 fun v2 as2 G2 H2 e2 s2 c2 x2 ve2 h2 =>
    h2 as2 G2 H2 σ _ _ _ c2 (x2.ve ve1) ve2 fun v as' G' H' e' s' c' x ve ⟨t, et, q⟩ => by
      subst et
      cases ve
      exact ⟨t, rfl, k t as' G' H' s' c' ((x1.trans x2).trans x) q⟩)
/-- a op b op' c -/
theorem je_chain {op op' : CmpOp} (h : JE X F a s fun e1 s1 => JE X F b s1 fun e2 s2 => JR X F (compareOp op) e1 e2 s2 fun e3 s3 => ∃ k, e3 = .d (.bl k) ∧ if k = true then JE X F c s3 fun e4 s4 => JR X F (compareOp op') e2 e4 s4 Φ else Φ (.d (.bl false)) s3)
    (hm : lastMarks [op, op'] [b, c] = false := by with_unfolding_all rfl) : JE X F (.Compare a [op, op'] [b, c] pos) s Φ :=
  je_of (pe_chain (op_sem X _) (op_sem X _) (pe_sem X a) (pe_sem X b) (pe_sem X c) hm) fun as G H σ Q c0 k => h as G H σ _ c0 fun v1 as1 G1 H1 e1 s1 c1 x1 ve1 h1 => h1 as1 G1 H1 σ _ c1 fun v2 as2 G2 H2 e2 s2 c2 x2 ve2 h2 =>
    h2 as2 G2 H2 σ _ _ _ c2 (x2.ve ve1) ve2 fun v as3 G3 H3 e3 s3 c3 x3 ve ⟨t, et, q⟩ => by
      subst et
      cases ve
      refine ⟨t, rfl, ?_⟩
      cases t with
      | true =>
        simp only [if_true] at q ⊢
        exact q as3 G3 H3 σ _ c3 fun v4 as4 G4 H4 e4 s4 c4 x4 ve4 h4 => h4 as4 G4 H4 σ _ _ Q c4 (x4.ve (x3.ve ve2)) ve4 fun v as' G' H' e' s' c' x ve q => k v as' G' H' e' s' c' ((((x1.trans x2).trans x3).trans x4).trans x) ve q
      | false => exact k _ as3 G3 H3 _ s3 c3 ((x1.trans x2).trans x3) (Rep.bl false) q
theorem jt_chain {op op' : CmpOp} (h : JE X F a s fun e1 s1 => JE X F b s1 fun e2 s2 => JR X F (compareOp op) e1 e2 s2 fun e3 s3 => ∃ k, e3 = .d (.bl k) ∧ if k = true then JE X F c s3 fun e4 s4 => JR X F (compareOp op') e2 e4 s4 (fun e5 s5 => ∃ k, e5 = .d (.bl k) ∧ Ψ k s5) else Ψ false s3)
    (hm : lastMarks [op, op'] [b, c] = false := by with_unfolding_all rfl) : JT X F (.Compare a [op, op'] [b, c] pos) s Ψ :=
  fun as G H σ Q c0 k => PT.sem (pt_chain (op_sem X _) (op_sem X _) (pe_sem X a) (pe_sem X b) (pe_sem X c) hm) (h as G H σ _ c0 fun v1 as1 G1 H1 e1 s1 c1 x1 ve1 h1 => h1 as1 G1 H1 σ _ c1 fun v2 as2 G2 H2 e2 s2 c2 x2 ve2 h2 =>
    h2 as2 G2 H2 σ _ _ _ c2 (x2.ve ve1) ve2 fun v as3 G3 H3 e3 s3 c3 x3 ve ⟨t, et, q⟩ => by
      subst et
      cases ve
      refine ⟨t, rfl, ?_⟩
      cases t with
      | true =>
        simp only [if_true] at q ⊢
        exact q as3 G3 H3 σ _ c3 fun v4 as4 G4 H4 e4 s4 c4 x4 ve4 h4 => h4 as4 G4 H4 σ _ _ _ c4 (x4.ve (x3.ve ve2)) ve4 fun v as' G' H' e' s' c' x ve ⟨t, et, q⟩ => by
          subst et
          cases ve
          exact ⟨t, rfl, k t as' G' H' s' c' ((((x1.trans x2).trans x3).trans x4).trans x) q⟩
      | false => exact ⟨false, rfl, k _ as3 G3 H3 s3 c3 ((x1.trans x2).trans x3) q⟩)
def JU (X : Cx) (F : Fr) (op : UnaryOp) (e : E) (s : S) (Φ : E → S → Prop) : Prop := JV X F (fun vs H Q => ∀ pins st σ v, Inv X pins σ H st → RelV (vs.headD .non) v → wpAny (model X.prog X.w) X.A (unaryOp op v) (EP X pins σ Q) X.xe st) [e] s Φ
theorem je_un {op : UnaryOp} (h : JE X F a s fun e1 s1 => JU X F op e1 s1 Φ) : JE X F (.UnaryOp op a pos) s Φ :=
  je_of (pe_un (r := fun x H Q => ∀ pins st σ v, Inv X pins σ H st → RelV x v → wpAny (model X.prog X.w) X.A (unaryOp op v) (EP X pins σ Q) X.xe st) (fun pins st σ H x v Q I rx q => q pins st σ v I rx) (pe_sem X a)) fun as G H σ Q c k =>
    h as G H σ _ c fun v1 as1 G1 H1 e1 s1 c1 x1 ve1 h1 => h1 as1 G1 H1 σ [v1] Q c1 (.cons ve1 .nil) fun v as' G' H' e' s' c' x ve q => k v as' G' H' e' s' c' (x1.trans x) ve q
/-! tests -/
theorem jt_w (h : JW X F e s Ψ) : JT X F e s Ψ := fun as G H σ Q c k => fun pins st I => h as G H σ Q c k _ pins st I
theorem jw_and1 (h : JT X F a s Ψ) : JW X F (.BoolOp .And [a] pos) s Ψ := fun as G H σ Q c k => PW.sem (pw_and1 (pt_sem X a)) (h as G H σ Q c k)
theorem jw_or1 (h : JT X F a s Ψ) : JW X F (.BoolOp .Or [a] pos) s Ψ := fun as G H σ Q c k => PW.sem (pw_or1 (pt_sem X a)) (h as G H σ Q c k)
theorem jw_and (h : JT X F a s fun k s1 => if k = true then JW X F (.BoolOp .And (b :: rest) pos) s1 Ψ else Ψ false s1) : JW X F (.BoolOp .And (a :: b :: rest) pos) s Ψ :=
  fun as G H σ Q c k => PW.sem (pw_and (pt_sem X a) (pw_sem X _)) (h as G H σ _ c fun t as1 G1 H1 s1 c1 x1 h1 => by
    cases t with
    | true =>
      simp only [if_true] at h1 ⊢
      exact h1 as1 G1 H1 σ Q c1 fun b as2 G2 H2 s2 c2 x2 q => k b as2 G2 H2 s2 c2 (x1.trans x2) q
    | false => exact k false as1 G1 H1 s1 c1 x1 h1)
theorem jw_or (h : JT X F a s fun k s1 => if k = true then Ψ true s1 else JW X F (.BoolOp .Or (b :: rest) pos) s1 Ψ) : JW X F (.BoolOp .Or (a :: b :: rest) pos) s Ψ :=
  fun as G H σ Q c k => PW.sem (pw_or (pt_sem X a) (pw_sem X _)) (h as G H σ _ c fun t as1 G1 H1 s1 c1 x1 h1 => by
    cases t with
    | true => exact k true as1 G1 H1 s1 c1 x1 h1
    | false => exact h1 as1 G1 H1 σ Q c1 fun b as2 G2 H2 s2 c2 x2 q => k b as2 G2 H2 s2 c2 (x1.trans x2) q)
theorem jt_not (h : JT X F a s fun k s1 => Ψ (!k) s1) : JT X F (.UnaryOp .Not a pos) s Ψ := fun as G H σ Q c k => PT.sem (pt_not (pt_sem X a)) (h as G H σ _ c fun t as1 G1 H1 s1 c1 x1 h1 => k _ as1 G1 H1 s1 c1 x1 h1)
/-- an expression that gives a bool, as a test -/
theorem jt_val (h : JE X F e s fun e1 s1 => ∃ k, e1 = .d (.bl k) ∧ Ψ k s1) (he : ∀ whole, isTrue e X.env whole = (do let v ← whole; standAt e.pos; holding [v] (truthy v)) := by intro _; rfl) : JT X F e s Ψ :=
  fun as G H σ Q c k => PT.sem (pt_val (pe_sem X e) he) (h as G H σ _ c fun v as1 G1 H1 e1 s1 c1 x1 ve ⟨t, et, q⟩ => by
    subst et
    cases ve
    exact ⟨t, rfl, k t as1 G1 H1 s1 c1 x1 q⟩)
/-- and, or, not as values -/
theorem je_one {op : BoolOp} (h : JE X F a s Φ) : JE X F (.BoolOp op [a] pos) s Φ := fun as G H σ Q c k => PE.sem (pe_one (pe_sem X a)) (h as G H σ Q c k)
theorem je_and (h : JE X F a s fun e1 s1 => ∃ k, e1 = .d (.bl k) ∧ if k = true then JE X F (.BoolOp .And (b :: rest) pos) s1 Φ else Φ (.d (.bl false)) s1) : JE X F (.BoolOp .And (a :: b :: rest) pos) s Φ :=
  je_of (pe_and (pe_sem X a) (pe_sem X _)) fun as G H σ Q c k => h as G H σ _ c fun v as1 G1 H1 e1 s1 c1 x1 ve ⟨t, et, h1⟩ => by
    subst et
    cases ve
    refine ⟨t, rfl, ?_⟩
    cases t with
    | true =>
      simp only [if_true] at h1 ⊢
      exact h1 as1 G1 H1 σ Q c1 fun v as2 G2 H2 e2 s2 c2 x2 ve q => k v as2 G2 H2 e2 s2 c2 (x1.trans x2) ve q
    | false => exact k _ as1 G1 H1 _ s1 c1 x1 (Rep.bl false) h1
theorem je_or (h : JE X F a s fun e1 s1 => ∃ k, e1 = .d (.bl k) ∧ if k = true then Φ (.d (.bl true)) s1 else JE X F (.BoolOp .Or (b :: rest) pos) s1 Φ) : JE X F (.BoolOp .Or (a :: b :: rest) pos) s Φ :=
  je_of (pe_or (pe_sem X a) (pe_sem X _)) fun as G H σ Q c k => h as G H σ _ c fun v as1 G1 H1 e1 s1 c1 x1 ve ⟨t, et, h1⟩ => by
    subst et
    cases ve
    refine ⟨t, rfl, ?_⟩
    cases t with
    | true => exact k _ as1 G1 H1 _ s1 c1 x1 (Rep.bl true) h1
    | false => exact h1 as1 G1 H1 σ Q c1 fun v as2 G2 H2 e2 s2 c2 x2 ve q => k v as2 G2 H2 e2 s2 c2 (x1.trans x2) ve q
theorem je_not (h : JE X F a s fun e1 s1 => ∃ k, e1 = .d (.bl k) ∧ Φ (.d (.bl (!k))) s1) : JE X F (.UnaryOp .Not a pos) s Φ :=
  je_of (pe_not (pe_sem X a)) fun as G H σ Q c k => h as G H σ _ c fun v as1 G1 H1 e1 s1 c1 x1 ve ⟨t, et, h1⟩ => by
    subst et
    cases ve
    exact ⟨t, rfl, k _ as1 G1 H1 _ s1 c1 x1 (Rep.bl _) h1⟩
theorem je_ife (h : JT X F c s fun k s1 => if k = true then JE X F a s1 Φ else JE X F b s1 Φ) : JE X F (.IfExp c a b pos) s Φ :=
  je_of (pe_ifExp (pt_sem X c) (pe_sem X a) (pe_sem X b)) fun as G H σ Q c k => h as G H σ _ c fun t as1 G1 H1 s1 c1 x1 h1 => by
    cases t with
    | true =>
      simp only [if_true] at h1 ⊢
      exact h1 as1 G1 H1 σ Q c1 fun v as2 G2 H2 e2 s2 c2 x2 ve q => k v as2 G2 H2 e2 s2 c2 (x1.trans x2) ve q
    | false => exact h1 as1 G1 H1 σ Q c1 fun v as2 G2 H2 e2 s2 c2 x2 ve q => k v as2 G2 H2 e2 s2 c2 (x1.trans x2) ve q
/-! argument lists -/
theorem ja_nil {Φ : List E → S → Prop} (q : Φ [] s) : JA X F [] s Φ := fun as G H σ Q c k => PA.sem pa_nil (k [] as G H [] s c (Ext.refl _ _) .nil q)
theorem ja_cons {Φ : List E → S → Prop} (h : JE X F e s fun e1 s1 => JA X F es s1 fun r s2 => Φ (e1 :: r) s2) (hs : starEach (e :: es) X.env = (false, eval e X.env) :: starEach es X.env := by rfl) : JA X F (e :: es) s Φ :=
  fun as G H σ Q c k => PA.sem (pa_cons (pe_sem X e) (pa_sem X es) hs) (h as G H σ _ c fun v as1 G1 H1 e1 s1 c1 x1 ve h1 => h1 as1 G1 H1 σ _ c1 fun vs as2 G2 H2 r s2 c2 x2 ves q => k _ as2 G2 H2 _ s2 c2 (x1.trans x2) (.cons (x2.ve ve) ves) q)
end
end DL
namespace DL
open PySem PySem.Spec PyProof.Rows L2
/-! ### nodes -/
def S.node (s : S) : E → Option (Kd × List E)
  | .d (.nd k ds) => some (k, ds.map .d)
  | .d .non => none
  | .d (.bl _) => none
  | .d (.int _) => none
  | .d (.str _) => none
  | .r i => match nth s.ce i with
    | some (.nd k es) => some (k, es)
    | _ => none
theorem CellAt.node {K : PySem.W.Frag} {H : Hp} {a : Addr} {vs : List V} : ∀ {k : Kd}, CellAt H a vs k → NodeAt K H a vs k
  | .tup, x => x.elim
  | .lst, x => SqL.of x
  | .dct ks, x => x
  | .ins C fs, x => x
variable {X : Cx} {F : Fr} {s : S}
theorem Cz.node {as : List Addr} {G H : Hp} {σ : L2.St} (c : Cz X F as G H σ s) {v : V} {e : E} {kd : Kd} {es : List E} (ve : VE X.K G as v e) (h : s.node e = some (kd, es)) :
    ∃ a vs, v = .ref a ∧ NodeAt X.K H a vs kd ∧ VEs X.K G as vs es := by
  cases e with
  | d x =>
    cases x with
    | nd k ds =>
      cases h
      cases ve with
      | nd n r => exact ⟨_, _, rfl, n.mono c.sub, VEs.ofReps r⟩
    | _ => cases h
  | r i =>
    obtain ⟨a, h1, h2⟩ := ve
    have h : (match nth s.ce i with
      | some (.nd k es) => some (k, es)
      | _ => none) = some (kd, es) := h
    rw [nth_eq] at h
    cases hc : s.ce[i]? with
    | none => rw [hc] at h; cases h
    | some cl =>
      rw [hc] at h
      cases cl with
      | gone => cases h
      | nd k es' =>
        cases h
        obtain ⟨a', vs, g1, g2, g3⟩ := c.cells i _ _ hc
        rw [h1] at g1
        cases g1
        exact ⟨_, vs, h2, g2.node, g3⟩
/-- a node as data -/
def dsOf : List E → Option (List D)
  | [] => some []
  | .d x :: r => (dsOf r).map (x :: ·)
  | .r _ :: _ => none
theorem dsOf_eq : ∀ {es : List E} {ds : List D}, dsOf es = some ds → es = ds.map .d
  | [], ds, h => by cases h; rfl
  | .d x :: r, ds, h => by
    unfold dsOf at h
    cases q : dsOf r with
    | none => rw [q] at h; cases h
    | some y =>
      rw [q] at h
      cases h
      rw [dsOf_eq q]
      rfl
  | .r _ :: _, ds, h => by cases h
theorem dsOf_map : ∀ (ds : List D), dsOf (ds.map .d) = some ds
  | [] => rfl
  | d :: ds => by
    show (dsOf (ds.map .d)).map (d :: ·) = _
    rw [dsOf_map ds]
    rfl
theorem VEs.atI {K : PySem.W.Frag} {G : Hp} {as : List Addr} {vs : List V} {es : List E} {i : Int} {e : E} (r : VEs K G as vs es) (h : L2.atI es i = some e) : ∃ v, L2.atI vs i = some v ∧ VE K G as v e := by
  unfold L2.atI at h ⊢
  rw [Paired.length r]
  cases q : ixN es.length i with
  | none => rw [q] at h; cases h
  | some j =>
    rw [q] at h
    exact r.get' h
/-! ### subscripts -/
def semIx (X : Cx) : R2 := fun x y H Q => ∀ value slice pins st σ v u, Inv X pins σ H st → RelV x v → RelV y u → subscripted slice false v u = operate [v, u] (getItem v u) → wpAny (model X.prog X.w) X.A (subscriptTail value slice v u) (EP X pins σ Q) X.xe st
theorem ix_sem (X : Cx) : IxR X (semIx X) := fun value slice pins st σ H x y v u Q I rx ry h hs => h value slice pins st σ v u I rx ry hs
def JX (X : Cx) (F : Fr) (e1 e2 : E) (s : S) (Φ : E → S → Prop) : Prop := ∀ as G H σ x y (Q : VK), Cz X F as G H σ s → VE X.K G as x e1 → VE X.K G as y e2 →
  (∀ v as' G' H' e' s', Cz X F as' G' H' σ s' → Ext as as' G G' → VE X.K G' as' v e' → Φ e' s' → Q v H') → semIx X x y H Q
section
variable {e a b c : Expr} {es rest : List Expr} {Φ : E → S → Prop} {Ψ : Bool → S → Prop} {pos p : Pos}
theorem je_sub (h : JE X F a s fun e1 s1 => JE X F b s1 fun e2 s2 => JX X F e1 e2 s2 Φ) (hs : PlainIx b := by intro _ _; rfl) : JE X F (.Subscript a b pos) s Φ :=
  je_of (pe_ix (ix_sem X) (pe_sem X a) (pe_sem X b) hs) fun as G H σ Q c k => h as G H σ _ c fun v1 as1 G1 H1 e1 s1 c1 x1 ve1 h1 => h1 as1 G1 H1 σ _ c1 fun v2 as2 G2 H2 e2 s2 c2 x2 ve2 h2 =>
    h2 as2 G2 H2 σ _ _ Q c2 (x2.ve ve1) ve2 fun v as' G' H' e' s' c' x ve q => k v as' G' H' e' s' c' ((x1.trans x2).trans x) ve q
theorem jx_of {r : R2} {e1 e2 : E} (h : IxR X r) (k : ∀ as G H σ x y (Q : VK), Cz X F as G H σ s → VE X.K G as x e1 → VE X.K G as y e2 →
    (∀ v as' G' H' e' s', Cz X F as' G' H' σ s' → Ext as as' G G' → VE X.K G' as' v e' → Φ e' s' → Q v H') → r x y H Q) : JX X F e1 e2 s Φ :=
  fun as G H σ x y Q c v1 v2 q => fun value slice pins st σ' v u I rx ry hs => h value slice pins st σ' H x y v u Q I rx ry (k as G H σ x y Q c v1 v2 q) hs
theorem jx_seq {e1 e' : E} {i : Int} {kd : Kd} {es : List E} (h : s.node e1 = some (kd, es)) (hk : kd = .lst ∨ kd = .tup) (ha : L2.atI es i = some e') (q : Φ e' s) : JX X F e1 (.d (.int i)) s Φ :=
  jx_of (ix_list.or ix_tup) fun as G H σ x y Q c v1 v2 k => by
    obtain ⟨a, vs, rfl, n, ves⟩ := c.node v1 h
    cases v2
    obtain ⟨v, hv, ve⟩ := ves.atI ha
    have fin := k v as G H e' s c (Ext.refl _ _) ve q
    rcases hk with rfl | rfl
    · exact .inl ⟨a, vs, i, v, rfl, rfl, n, hv, fin⟩
    · exact .inr ⟨a, vs, i, v, rfl, rfl, n, hv, fin⟩
theorem jx_str {z : Str} {i : Int} {cp : Nat} (hz : z.length ≤ sizeLine) (ha : L2.atI z.cps.toList i = some cp) (q : Φ (.d (.str ⟨#[cp]⟩)) s) : JX X F (.d (.str z)) (.d (.int i)) s Φ :=
  jx_of ix_str fun as G H σ x y Q c v1 v2 k => by
    cases v1
    cases v2
    exact ⟨z, i, cp, rfl, rfl, hz, ha, k _ as G H _ s c (Ext.refl _ _) (Rep.str _) q⟩
/-- a key -/
def keyE : E → Option Key
  | .d (.int i) => some (.inl i)
  | .d (.str x) => some (.inr x)
  | _ => none
theorem keyE_v {K : PySem.W.Frag} {G : Hp} {as : List Addr} {e : E} {k : Key} {v : V} (h : keyE e = some k) (ve : VE K G as v e) : v = kV k := by
  cases e with
  | r _ => cases h
  | d x => cases x <;> cases h <;> cases ve <;> rfl
/-- what stands at a key -/
def lk {α : Type} (kvs : List (Key × α)) (k : Key) : Option α := (kvs.find? fun kv => decide (kv.1 = k)).map (·.2)
theorem lk_val {K : PySem.W.Frag} {G : Hp} {as : List Addr} {k : Key} : ∀ {ks : List Key} {vs : List V} {es : List E}, VEs K G as vs es →
    (∀ e, lk (ks.zip es) k = some e → ∃ v, valV (ks.zip vs) k = some v ∧ VE K G as v e) ∧ (lk (ks.zip es) k = none → valV (ks.zip vs) k = none)
  | [], _, _, _ => ⟨fun e h => by simp [lk] at h, fun _ => rfl⟩
  | _ :: _, _, _, .nil => ⟨fun e h => by simp [lk] at h, fun _ => rfl⟩
  | k' :: ks, v :: vs, e :: es, .cons h t => by
    obtain ⟨h1, h2⟩ := lk_val (k := k) (ks := ks) t
    by_cases hk : k' = k
    · subst hk
      refine ⟨fun e' q => ?_, fun q => ?_⟩
      · simp [lk, List.zip_cons_cons, List.find?_cons] at q
        subst q
        exact ⟨v, by simp [valV, List.zip_cons_cons, List.find?_cons], h⟩
      · simp [lk, List.zip_cons_cons, List.find?_cons] at q
    · have e1 : lk ((k' :: ks).zip (e :: es)) k = lk (ks.zip es) k := by simp [lk, List.zip_cons_cons, List.find?_cons, hk]
      have e2 : valV ((k' :: ks).zip (v :: vs)) k = valV (ks.zip vs) k := by simp [valV, List.zip_cons_cons, List.find?_cons, hk]
      rw [e1, e2]
      exact ⟨h1, h2⟩
theorem ix_dict (hu : X.A.units + 1 < cLine) : IxR X (fun x y H Q => ∃ a v, x = .ref a ∧ DGet H a y (some v) ∧ Q v H) := by
  intro value slice pins st σ H x y v u Q I rx ry h hs
  obtain ⟨a, w, rfl, g, q⟩ := h
  obtain rfl : v = Value.ref a := rx
  exact tail_any (dict_typeIs I g) PySem.F.slot_dict_getitem.lookup (d_getItem hu I g ry fun w' s3 I3 rw' => ⟨w, H, I3, rw', q⟩) hs
theorem jx_dct {e1 e2 e' : E} {k : Key} {ks : List Key} {es : List E} (hu : X.A.units + 1 < cLine) (h : s.node e1 = some (.dct ks, es)) (hk : keyE e2 = some k) (ha : lk (ks.zip es) k = some e') (q : Φ e' s) : JX X F e1 e2 s Φ :=
  jx_of (ix_dict hu) fun as G H σ x y Q c v1 v2 kk => by
    obtain ⟨a, vs, rfl, ⟨n1, n2, od, n3⟩, ves⟩ := c.node v1 h
    obtain rfl := keyE_v hk v2
    obtain ⟨v, hv, ve⟩ := (lk_val (ks := ks) ves).1 e' ha
    exact ⟨a, v, rfl, .inl ⟨_, k, .inr ⟨od, n3⟩, rfl, hv.symm⟩, kk v as G H e' s c (Ext.refl _ _) ve q⟩
end
/-! ### operations -/
section
variable {Φ : E → S → Prop}
theorem jr_of {f : Value → Value → Sem Value} {r : R2} {e1 e2 : E} (h : OpR X f r) (k : ∀ as G H σ x y (Q : VK), Cz X F as G H σ s → VE X.K G as x e1 → VE X.K G as y e2 →
    (∀ v as' G' H' e' s', Cz X F as' G' H' σ s' → Ext as as' G G' → VE X.K G' as' v e' → Φ e' s' → Q v H') → r x y H Q) : JR X F f e1 e2 s Φ :=
  fun as G H σ x y Q c v1 v2 q => fun pins st σ' v u I rx ry => h pins st σ' H x y v u Q I rx ry (k as G H σ x y Q c v1 v2 q)
/-- an operation on scalars that gives a scalar -/
theorem jr_ii {f : Value → Value → Sem Value} {C : Int → Int → Prop} {g : Int → Int → V} {i j : Int} {d : D} (h : OpR X f (rI C g)) (hc : C i j) (hd : Rep X.K (fun _ => none) (g i j) d) (q : Φ (.d d) s) : JR X F f (.d (.int i)) (.d (.int j)) s Φ :=
  jr_of h fun as G H σ x y Q c v1 v2 k => by
    cases v1
    cases v2
    exact ⟨i, j, rfl, rfl, hc, k _ as G H _ s c (Ext.refl _ _) (hd.mono (by intro _ _ z; cases z)) q⟩
theorem jr_i0 {f : Value → Value → Sem Value} {g : Int → Int → V} {i j : Int} {d : D} (h : OpR X f (rI0 g)) (hd : Rep X.K (fun _ => none) (g i j) d) (q : Φ (.d d) s) : JR X F f (.d (.int i)) (.d (.int j)) s Φ :=
  jr_of h fun as G H σ x y Q c v1 v2 k => by
    cases v1
    cases v2
    exact ⟨i, j, rfl, rfl, k _ as G H _ s c (Ext.refl _ _) (hd.mono (by intro _ _ z; cases z)) q⟩
variable {i j : Int}
theorem jr_add (q : Φ (.d (.int (i + j))) s) : JR X F (binaryOp .Add) (.d (.int i)) (.d (.int j)) s Φ := jr_i0 op_add (.int _) q
theorem jr_sub (q : Φ (.d (.int (i - j))) s) : JR X F (binaryOp .Sub) (.d (.int i)) (.d (.int j)) s Φ := jr_i0 op_sub (.int _) q
theorem jr_mul (hc : CMul i j ∨ CMulW i j) (q : Φ (.d (.int (i * j))) s) : JR X F (binaryOp .Mult) (.d (.int i)) (.d (.int j)) s Φ := by
  rcases hc with hc | hc
  · exact jr_ii op_mul hc (.int _) q
  · exact jr_ii op_mulW hc (.int _) q
theorem jr_fdiv (hc : CDiv i j ∨ CDivW i j) (q : Φ (.d (.int (i / j))) s) : JR X F (binaryOp .FloorDiv) (.d (.int i)) (.d (.int j)) s Φ := by
  rcases hc with hc | hc
  · exact jr_ii op_fdiv hc (.int _) q
  · exact jr_ii op_fdivW hc (.int _) q
theorem jr_mod (hc : 0 < j) (q : Φ (.d (.int (i % j))) s) : JR X F (binaryOp .Mod) (.d (.int i)) (.d (.int j)) s Φ := jr_ii op_mod hc (.int _) q
theorem jr_pow (hc : CPow i j) (q : Φ (.d (.int (i ^ j.toNat))) s) : JR X F (binaryOp .Pow) (.d (.int i)) (.d (.int j)) s Φ := jr_ii op_pow hc (.int _) q
theorem jr_shr (hc : 0 ≤ j) (q : Φ (.d (.int (i / 2 ^ j.toNat))) s) : JR X F (binaryOp .RShift) (.d (.int i)) (.d (.int j)) s Φ := jr_ii op_shr hc (.int _) q
theorem jr_shl (hc : CPow i j) (q : Φ (.d (.int (i * 2 ^ j.toNat))) s) : JR X F (binaryOp .LShift) (.d (.int i)) (.d (.int j)) s Φ := jr_ii op_shl hc (.int _) q
theorem jr_band (q : Φ (.d (.int (Builtin.bitAnd i j))) s) : JR X F (binaryOp .BitAnd) (.d (.int i)) (.d (.int j)) s Φ := jr_i0 op_and (.int _) q
theorem jr_bxor (q : Φ (.d (.int (Builtin.bitXor i j))) s) : JR X F (binaryOp .BitXor) (.d (.int i)) (.d (.int j)) s Φ := jr_i0 op_xor (.int _) q
theorem jr_lt (q : Φ (.d (.bl (decide (i < j)))) s) : JR X F (compareOp .Lt) (.d (.int i)) (.d (.int j)) s Φ := jr_i0 op_lt (.bl _) q
theorem jr_le (q : Φ (.d (.bl (decide (i ≤ j)))) s) : JR X F (compareOp .LtE) (.d (.int i)) (.d (.int j)) s Φ := jr_i0 op_le (.bl _) q
theorem jr_gt (q : Φ (.d (.bl (decide (j < i)))) s) : JR X F (compareOp .Gt) (.d (.int i)) (.d (.int j)) s Φ := jr_i0 op_gt (.bl _) q
theorem jr_ge (q : Φ (.d (.bl (decide (j ≤ i)))) s) : JR X F (compareOp .GtE) (.d (.int i)) (.d (.int j)) s Φ := jr_i0 op_ge (.bl _) q
theorem jr_adds {x y : Str} (hz : x.length + y.length ≤ sizeLine) (q : Φ (.d (.str (x ++ y))) s) : JR X F (binaryOp .Add) (.d (.str x)) (.d (.str y)) s Φ :=
  jr_of op_add_str fun as G H σ _ _ Q c v1 v2 k => by
    cases v1
    cases v2
    exact ⟨x, y, rfl, rfl, hz, k _ as G H _ s c (Ext.refl _ _) (Rep.str _) q⟩
/-- == and != of scalars -/
def vD : D → V
  | .non => .non | .bl b => .bl b | .int i => .int i | .str x => .str x | .nd _ _ => .ref 0
theorem vD_of {K : PySem.W.Frag} {G : Hp} {v : V} {d : D} (h : Rep K G v d) (hn : ∀ k ds, d ≠ .nd k ds) : v = vD d := by
  cases h with
  | nd _ _ => exact absurd rfl (hn _ _)
  | _ => rfl
theorem scal_nd {d e : D} (h : scal (vD d) (vD e) = true) : (∀ k ds, d ≠ .nd k ds) ∧ ∀ k ds, e ≠ .nd k ds := by
  refine ⟨fun k ds q => ?_, fun k ds q => ?_⟩
  · subst q; cases e <;> cases h
  · subst q; cases d <;> cases h
theorem jr_eq {d e : D} (hs : scal (vD d) (vD e) = true) (q : Φ (.d (.bl (decide (vD d = vD e)))) s) : JR X F (compareOp .Eq) (.d d) (.d e) s Φ :=
  jr_of op_eq fun as G H σ x y Q c v1 v2 k => by
    obtain ⟨n1, n2⟩ := scal_nd hs
    obtain rfl := vD_of v1 n1
    obtain rfl := vD_of v2 n2
    exact ⟨hs, k _ as G H _ s c (Ext.refl _ _) (Rep.bl _) q⟩
theorem jr_ne {d e : D} (hs : scal (vD d) (vD e) = true) (q : Φ (.d (.bl (!decide (vD d = vD e)))) s) : JR X F (compareOp .NotEq) (.d d) (.d e) s Φ :=
  jr_of op_ne fun as G H σ x y Q c v1 v2 k => by
    obtain ⟨n1, n2⟩ := scal_nd hs
    obtain rfl := vD_of v1 n1
    obtain rfl := vD_of v2 n2
    exact ⟨hs, k _ as G H _ s c (Ext.refl _ _) (Rep.bl _) q⟩
theorem dv_int {i j : Int} : decide (vD (.int i) = vD (.int j)) = decide (i = j) := by simp [vD]
theorem dv_str {i j : Str} : decide (vD (.str i) = vD (.str j)) = decide (i = j) := by simp [vD]
theorem dv_bl {i j : Bool} : decide (vD (.bl i) = vD (.bl j)) = decide (i = j) := by simp [vD]
theorem jr_eqi (q : Φ (.d (.bl (decide (i = j)))) s) : JR X F (compareOp .Eq) (.d (.int i)) (.d (.int j)) s Φ :=
  jr_eq rfl (by rw [dv_int]; exact q)
theorem jr_nei (q : Φ (.d (.bl (!decide (i = j)))) s) : JR X F (compareOp .NotEq) (.d (.int i)) (.d (.int j)) s Φ :=
  jr_ne rfl (by rw [dv_int]; exact q)
theorem jr_eqs {x y : Str} (q : Φ (.d (.bl (decide (x = y)))) s) : JR X F (compareOp .Eq) (.d (.str x)) (.d (.str y)) s Φ :=
  jr_eq rfl (by rw [dv_str]; exact q)
theorem jr_nes {x y : Str} (q : Φ (.d (.bl (!decide (x = y)))) s) : JR X F (compareOp .NotEq) (.d (.str x)) (.d (.str y)) s Φ :=
  jr_ne rfl (by rw [dv_str]; exact q)
theorem jr_eqb {x y : Bool} (q : Φ (.d (.bl (decide (x = y)))) s) : JR X F (compareOp .Eq) (.d (.bl x)) (.d (.bl y)) s Φ :=
  jr_eq rfl (by rw [dv_bl]; exact q)
theorem jr_neb {x y : Bool} (q : Φ (.d (.bl (!decide (x = y)))) s) : JR X F (compareOp .NotEq) (.d (.bl x)) (.d (.bl y)) s Φ :=
  jr_ne rfl (by rw [dv_bl]; exact q)
/-- is None -/
def isNon : E → Bool
  | .d .non => true
  | _ => false
theorem isNon_v {K : PySem.W.Frag} {G : Hp} {as : List Addr} {v : V} {e : E} (h : VE K G as v e) : decide (v = .non) = isNon e := by
  cases e with
  | r _ => obtain ⟨a, _, rfl⟩ := h; rfl
  | d x => cases h <;> rfl
theorem jr_isN {e : E} (q : Φ (.d (.bl (isNon e))) s) : JR X F (compareOp .Is) e (.d .non) s Φ :=
  jr_of op_isN fun as G H σ x y Q c v1 v2 k => by
    cases v2
    exact ⟨rfl, by rw [isNon_v v1]; exact k _ as G H _ s c (Ext.refl _ _) (Rep.bl _) q⟩
theorem jr_notN {e : E} (q : Φ (.d (.bl (!isNon e))) s) : JR X F (compareOp .IsNot) e (.d .non) s Φ :=
  jr_of op_notN fun as G H σ x y Q c v1 v2 k => by
    cases v2
    exact ⟨rfl, by rw [isNon_v v1]; exact k _ as G H _ s c (Ext.refl _ _) (Rep.bl _) q⟩
/-- is True, is False: a bool is itself, anything else is not -/
def isBl (b : Bool) : E → Bool
  | .d (.bl c) => decide (c = b)
  | _ => false
theorem op_isBool : OpR X (compareOp .Is) (fun x y H Q => ∃ b : Bool, y = .bl b ∧ Q (.bl (decide (x = .bl b))) H) := by
  intro pins st σ H x y v u Q I rx ry h
  obtain ⟨b, rfl, q⟩ := h
  cases (show u = Value.bool b from ry)
  have oth : ∀ {v : Value}, RelV x v → x ≠ .bl b → wpAny (model X.prog X.w) X.A (compareOp .Is v (.bool b)) (EP X pins σ Q) X.xe st := fun {v} r ne => by
    have fin : EP X pins σ Q (.bool false) st := ⟨.bl false, H, I, rfl, by rw [decide_eq_false ne] at q; exact q⟩
    cases x with
    | non => cases r; exact wpAny_is_other rfl (fun z => by cases z) fin
    | bl c => cases r; exact wpAny_is_other rfl (fun z => ne (by rw [Value.bool.inj z])) fin
    | int i => obtain ⟨t, rfl⟩ := r; exact wpAny_is_other rfl (fun z => by cases z) fin
    | str i => obtain ⟨t, rfl⟩ := r; exact wpAny_is_other rfl (fun z => by cases z) fin
    | byt i => obtain ⟨t, rfl⟩ := r; exact wpAny_is_other rfl (fun z => by cases z) fin
    | flt i => obtain ⟨t, rfl⟩ := r; exact wpAny_is_other rfl (fun z => by cases z) fin
    | ref a => cases r; exact wpAny_is_other rfl (fun z => by cases z) fin
    | ty n => cases r; exact wpAny_is_other rfl (fun z => by cases z) fin
  by_cases e : x = .bl b
  · subst e
    cases (show v = Value.bool b from rx)
    exact wpAny_is_self rfl ⟨.bl true, H, I, rfl, by simpa using q⟩
  · exact oth rx e
end
end DL
namespace DL
open PySem PySem.Spec PyProof.Rows L2
variable {X : Cx} {F : Fr} {s : S}
/-! ### states: more frozen, more owned, frozen now -/
theorem same_upd {G H : Hp} {p : Addr} {o : HO} (e : Same G H) : Same (upd G p o) (upd H p o) := fun b u h => by
  by_cases hb : b = p
  · subst hb; rw [upd_same] at h ⊢; exact h
  · rw [upd_ne hb] at h ⊢; exact e b u h
theorem same_new {G : Hp} {p : Addr} {o : HO} (h : G p = none) : Same G (upd G p o) := fun b u q => by
  rw [upd_ne (ne_of_none q h)]; exact q
section
variable {as : List Addr} {G H : Hp} {σ : L2.St}
theorem Cz.gnone (c : Cz X F as G H σ s) {p : Addr} (h : H p = none) : G p = none := by
  cases q : G p with
  | none => rfl
  | some o => have := c.sub p o q; rw [h] at this; cases this
theorem Cz.notin (c : Cz X F as G H σ s) {p : Addr} (h : H p = none) : p ∉ as := fun z => c.there p z h
theorem Cz.h0none (c : Cz X F as G H σ s) {p : Addr} (h : H p = none) : F.H0 p = none := by
  cases q : F.H0 p with
  | none => rfl
  | some o =>
    by_cases hA : p ∈ F.A0
    · exact absurd (c.pre.subset hA) (c.notin h)
    · have := c.frame p o q hA; rw [h] at this; cases this
/-- a new frozen object -/
theorem Cz.addG (c : Cz X F as G H σ s) {p : Addr} {o : HO} (h : H p = none) : Cz X F as (upd G p o) (upd H p o) σ s := by
  have gn := c.gnone h
  have sg : Same G (upd G p o) := same_new gn
  have ni := c.notin h
  refine ⟨same_upd c.sub, c.base.trans sg, fun b h1 h2 => ?_, fun b u h1 h2 => ?_, c.len, c.pre, c.nd, fun k a kd es h1 h2 => ?_, c.fresh, fun a ha => ?_, fun k kd es hk => ?_, fun i e he => ?_, c.slen, c.har⟩
  · have hb : b ≠ p := fun z => by rw [z] at h2; exact h2 (c.h0none h)
    rw [upd_ne hb]; exact c.new b h1 h2
  · have q := c.frame b u h1 h2
    rw [upd_ne (ne_of_none q h)]; exact q
  · have ha : a ≠ p := fun z => ni (by rw [← z]; exact List.mem_of_getElem? h1)
    rw [upd_ne ha]; exact c.own k a kd es h1 h2
  · rw [upd_ne (fun z => ni (by rw [← z]; exact ha))]; exact c.there a ha
  · obtain ⟨a, vs, h1, h2, h3⟩ := c.cells k kd es hk
    exact ⟨a, vs, h1, h2.keep fun u q => by rw [upd_ne (ne_of_none q h)]; exact q, h3.mono (List.prefix_refl _) sg⟩
  · obtain ⟨v, h1, h2⟩ := c.slots i e he
    exact ⟨v, h1, h2.mono (List.prefix_refl _) sg⟩
def S.push (s : S) (kd : Kd) (es : List E) : S := ⟨s.sl, s.ce ++ [.nd kd es], s.ar⟩
theorem pre_snoc {as : List Addr} {p : Addr} : as <+: as ++ [p] := ⟨[p], rfl⟩
/-- a new owned object -/
theorem Cz.addO (c : Cz X F as G H σ s) {p : Addr} {o : HO} {kd : Kd} {vs : List V} {es : List E} (h : H p = none) (hc : CellAt (upd H p o) p vs kd) (hv : VEs X.K G as vs es) : Cz X F (as ++ [p]) G (upd H p o) σ (s.push kd es) := by
  have gn := c.gnone h
  have ni := c.notin h
  have pr : as <+: as ++ [p] := pre_snoc
  have at_ : ∀ {k : Nat} {a : Addr}, (as ++ [p])[k]? = some a → (k < as.length ∧ as[k]? = some a) ∨ (k = as.length ∧ a = p) := fun {k a} q => by
    by_cases hk : k < as.length
    · rw [List.getElem?_append_left hk] at q; exact .inl ⟨hk, q⟩
    · rw [List.getElem?_append_right (by omega)] at q
      have hk0 : k - as.length = 0 := by
        have := (List.getElem?_eq_some_iff.mp q).1
        simp at this
        exact this
      rw [hk0] at q
      exact .inr ⟨by omega, (Option.some.inj q).symm⟩
  have cet : ∀ {k : Nat} {cl : Cell}, (s.push kd es).ce[k]? = some cl → (k < as.length ∧ s.ce[k]? = some cl) ∨ (k = as.length ∧ cl = .nd kd es) := fun {k cl} q => by
    have q : (s.ce ++ [.nd kd es])[k]? = some cl := q
    by_cases hk : k < as.length
    · rw [List.getElem?_append_left (by rw [← c.len]; exact hk)] at q; exact .inl ⟨hk, q⟩
    · rw [List.getElem?_append_right (by rw [← c.len]; omega)] at q
      have hk0 : k - s.ce.length = 0 := by
        have := (List.getElem?_eq_some_iff.mp q).1
        simp at this
        exact this
      rw [hk0] at q
      exact .inr ⟨by rw [c.len]; have := c.len; omega, (Option.some.inj q).symm⟩
  refine ⟨fun b u q => ?_, c.base, c.new, fun b u h1 h2 => ?_, ?_, c.pre.trans pr, ?_, fun k a kd' es' h1 h2 => ?_, fun a ha => ?_, fun a ha => ?_, fun k kd' es' hk => ?_, fun i e he => ?_, c.slen, c.har⟩
  · rw [upd_ne (ne_of_none q gn)]; exact c.sub b u q
  · have q := c.frame b u h1 h2
    rw [upd_ne (ne_of_none q h)]; exact q
  · show (as ++ [p]).length = (s.ce ++ [Cell.nd kd es]).length
    rw [List.length_append, List.length_append, c.len]; rfl
  · rw [List.nodup_append]
    exact ⟨c.nd, by simp, fun a ha b hb => by
      have : b = p := by simpa using hb
      subst this
      exact fun z => ni (z ▸ ha)⟩
  · rcases at_ h1 with ⟨hk, q⟩ | ⟨hk, rfl⟩
    · rcases cet h2 with ⟨_, q2⟩ | ⟨hk2, _⟩
      · exact c.own k a _ _ q q2
      · omega
    · exact gn
  · rcases List.mem_append.mp ha with ha | ha
    · exact c.fresh a ha
    · have : a = p := by simpa using ha
      subst this
      exact .inr (c.h0none h)
  · rcases List.mem_append.mp ha with ha | ha
    · rw [upd_ne (fun z => ni (by rw [← z]; exact ha))]; exact c.there a ha
    · have : a = p := by simpa using ha
      subst this
      rw [upd_same]
      exact fun z => by cases z
  · rcases cet hk with ⟨hlt, q⟩ | ⟨hk2, q⟩
    · obtain ⟨a, ws, h1, h2, h3⟩ := c.cells k kd' es' q
      exact ⟨a, ws, pre_get pr h1, h2.keep fun u q => by rw [upd_ne (ne_of_none q h)]; exact q, h3.mono pr (Same.refl _)⟩
    · cases q
      subst hk2
      exact ⟨p, vs, by rw [List.getElem?_append_right (Nat.le_refl _)]; simp, hc, hv.mono pr (Same.refl _)⟩
  · obtain ⟨v, h1, h2⟩ := c.slots i e he
    exact ⟨v, h1, h2.mono pr (Same.refl _)⟩
/-! freezing the cell k -/
def E.fz (k : Nat) (x : D) : E → E
  | .d y => .d y
  | .r j => if j == k then .d x else .r j
def Cell.fz (k : Nat) (x : D) : Cell → Cell
  | .gone => .gone
  | .nd kd es => .nd kd (es.map (E.fz k x))
def S.fz (s : S) (k : Nat) (x : D) : S := ⟨s.sl.map (Option.map (E.fz k x)), (setN s.ce k .gone).map (Cell.fz k x), s.ar⟩
theorem Cz.fz (c : Cz X F as G H σ s) {k : Nat} {kd : Kd} {ds : List D} (hk : nth s.ce k = some (.nd kd (ds.map .d))) (hkd : ∀ C fs, kd ≠ .ins C fs) (ha : s.ar ≤ k) :
    ∃ a G', as[k]? = some a ∧ Ext as as G G' ∧ Cz X F as G' H σ (s.fz k (.nd kd ds)) ∧ Rep X.K G' (.ref a) (.nd kd ds) := by
  rw [nth_eq] at hk
  obtain ⟨a, vs, h1, h2, h3⟩ := c.cells k _ _ hk
  obtain ⟨o, ho⟩ := h2.some
  have gn : G a = none := c.own k a _ _ h1 hk
  have sg : Same G (upd G a o) := same_new gn
  have inj : ∀ {j : Nat} {b : Addr}, as[j]? = some b → b = a → j = k := fun {j b} q e => by
    subst e
    obtain ⟨l1, e1⟩ := List.getElem?_eq_some_iff.mp q
    obtain ⟨l2, e2⟩ := List.getElem?_eq_some_iff.mp h1
    exact (List.getElem_inj c.nd).mp (e1.trans e2.symm)
  have nA : a ∉ F.A0 := fun z => by
    obtain ⟨j, hj⟩ := List.getElem?_of_mem z
    have q := pre_get c.pre hj
    have := inj q rfl
    have l := (List.getElem?_eq_some_iff.mp hj).1
    rw [c.har] at l
    omega
  have h0 : F.H0 a = none := (c.fresh a (List.mem_of_getElem? h1)).resolve_left nA
  have rep : Rep X.K (upd G a o) (.ref a) (.nd kd ds) := by
    refine .nd ?_ (h3.reps.mono sg)
    have : CellAt (upd G a o) a vs kd := h2.keep fun u q => by rw [upd_same, ← ho, q]
    exact this.node
  have vz : ∀ {v : V} {e : E}, VE X.K G as v e → VE X.K (upd G a o) as v (e.fz k (.nd kd ds)) := fun {v e} q => by
    cases e with
    | d y => exact Rep.mono sg q
    | r j =>
      obtain ⟨b, q1, q2⟩ := q
      show VE X.K (upd G a o) as v (if (j == k) = true then .d (.nd kd ds) else .r j)
      by_cases hj : j = k
      · subst hj
        rw [if_pos (by simp)]
        rw [h1] at q1
        cases q1
        rw [q2]
        exact rep
      · rw [if_neg (by simpa using hj)]
        exact ⟨b, q1, q2⟩
  have vzs : ∀ {vs : List V} {es : List E}, VEs X.K G as vs es → VEs X.K (upd G a o) as vs (es.map (E.fz k (.nd kd ds))) := by
    intro vs es h
    induction h with
    | nil => exact .nil
    | cons h _ ih => exact .cons (vz h) ih
  have cel : ∀ {j : Nat} {kd' : Kd} {es' : List E}, (s.fz k (.nd kd ds)).ce[j]? = some (.nd kd' es') → j ≠ k ∧ ∃ es, s.ce[j]? = some (.nd kd' es) ∧ es' = es.map (E.fz k (.nd kd ds)) := fun {j kd' es'} q => by
    have q : ((setN s.ce k .gone).map (Cell.fz k (.nd kd ds)))[j]? = some (.nd kd' es') := q
    rw [setN_eq, List.getElem?_map] at q
    by_cases hj : j = k
    · subst hj
      have l := (List.getElem?_eq_some_iff.mp hk).1
      rw [List.getElem?_set_self l] at q
      cases q
    · rw [List.getElem?_set_ne (fun z => hj z.symm)] at q
      cases e : s.ce[j]? with
      | none => rw [e] at q; cases q
      | some cl =>
        rw [e] at q
        cases cl with
        | gone => cases q
        | nd k2 es2 =>
          cases q
          exact ⟨hj, es2, rfl, rfl⟩
  refine ⟨a, upd G a o, h1, ⟨List.prefix_refl _, sg⟩, ⟨fun b u q => ?_, c.base.trans sg, fun b q1 q2 => ?_, c.frame, ?_, c.pre, c.nd, fun j b kd' es' q1 q2 => ?_, c.fresh, c.there, fun j kd' es' q => ?_, fun i e he => ?_, ?_, c.har⟩, rep⟩
  · by_cases hb : b = a
    · subst hb
      rw [upd_same] at q
      rw [ho, ← q]
    · rw [upd_ne hb] at q
      exact c.sub b u q
  · have hb : b ≠ a := fun z => by rw [z] at q2; exact q2 h0
    rw [upd_ne hb]
    exact c.new b q1 q2
  · show as.length = ((setN s.ce k .gone).map _).length
    rw [List.length_map, setN_eq, List.length_set]
    exact c.len
  · obtain ⟨hj, es, q3, _⟩ := cel q2
    have hb : b ≠ a := fun z => hj (inj q1 z)
    rw [upd_ne hb]
    exact c.own j b _ _ q1 q3
  · obtain ⟨hj, es, q3, rfl⟩ := cel q
    obtain ⟨b, ws, w1, w2, w3⟩ := c.cells j _ _ q3
    exact ⟨b, ws, w1, w2, vzs w3⟩
  · have he : (s.sl.map (Option.map (E.fz k (.nd kd ds))))[i]? = some (some e) := he
    rw [List.getElem?_map] at he
    cases q : s.sl[i]? with
    | none => rw [q] at he; cases he
    | some oe =>
      rw [q] at he
      cases oe with
      | none => cases he
      | some e0 =>
        cases he
        obtain ⟨v, w1, w2⟩ := c.slots i e0 q
        exact ⟨v, w1, vz w2⟩
  · show (s.sl.map _).length = σ.length
    rw [List.length_map]
    exact c.slen
/-- the cell k is written -/
def S.put (s : S) (k : Nat) (kd : Kd) (es : List E) : S := ⟨s.sl, setN s.ce k (.nd kd es), s.ar⟩
theorem Cz.put (c : Cz X F as G H σ s) {k : Nat} {a : Addr} {kd kd0 : Kd} {es0 es : List E} {vs : List V} {o : HO} (hk : s.ce[k]? = some (.nd kd0 es0)) (h1 : as[k]? = some a) (hc : CellAt (upd H a o) a vs kd) (hv : VEs X.K G as vs es) :
    Cz X F as G (upd H a o) σ (s.put k kd es) := by
  have gn : G a = none := c.own k a _ _ h1 hk
  have inj : ∀ {j : Nat} {b : Addr}, as[j]? = some b → b = a → j = k := fun {j b} q e => by
    subst e
    obtain ⟨l1, e1⟩ := List.getElem?_eq_some_iff.mp q
    obtain ⟨l2, e2⟩ := List.getElem?_eq_some_iff.mp h1
    exact (List.getElem_inj c.nd).mp (e1.trans e2.symm)
  have am := List.mem_of_getElem? h1
  refine ⟨fun b u q => ?_, c.base, c.new, fun b u q1 q2 => ?_, ?_, c.pre, c.nd, fun j b kd' es' q1 q2 => ?_, c.fresh, fun b hb => ?_, fun j kd' es' q => ?_, c.slots, c.slen, c.har⟩
  · rw [upd_ne (ne_of_none q gn)]; exact c.sub b u q
  · have hb : b ≠ a := fun z => by
      subst z
      rcases c.fresh b am with z | z
      · exact q2 z
      · rw [z] at q1; cases q1
    rw [upd_ne hb]; exact c.frame b u q1 q2
  · show as.length = (setN s.ce k _).length
    rw [setN_eq, List.length_set]; exact c.len
  · have q2 : (setN s.ce k (.nd kd es))[j]? = some (.nd kd' es') := q2
    rw [setN_eq] at q2
    by_cases hj : j = k
    · subst hj
      rw [h1] at q1
      cases q1
      exact gn
    · rw [List.getElem?_set_ne (fun z => hj z.symm)] at q2
      exact c.own j b _ _ q1 q2
  · by_cases hb' : b = a
    · subst hb'; rw [upd_same]; exact fun z => by cases z
    · rw [upd_ne hb']; exact c.there b hb
  · have q : (setN s.ce k (.nd kd es))[j]? = some (.nd kd' es') := q
    rw [setN_eq] at q
    by_cases hj : j = k
    · subst hj
      rw [List.getElem?_set_self (List.getElem?_eq_some_iff.mp hk).1] at q
      cases q
      exact ⟨a, vs, h1, hc, hv⟩
    · rw [List.getElem?_set_ne (fun z => hj z.symm)] at q
      obtain ⟨b, ws, w1, w2, w3⟩ := c.cells j _ _ q
      have hb : b ≠ a := fun z => hj (inj w1 z)
      exact ⟨b, ws, w1, w2.keep fun u z => by rw [upd_ne hb]; exact z, w3⟩
/-- a slot is stored -/
def S.set (s : S) (i : Nat) (e : E) : S := ⟨setN s.sl i (some e), s.ce, s.ar⟩
theorem Cz.set (c : Cz X F as G H σ s) {i : Nat} {v : V} {e : E} (h : VE X.K G as v e) : Cz X F as G H (σ.set i (some v)) (s.set i e) := by
  refine ⟨c.sub, c.base, c.new, c.frame, c.len, c.pre, c.nd, c.own, c.fresh, c.there, c.cells, fun j e' he => ?_, ?_, c.har⟩
  · have he : (setN s.sl i (some e))[j]? = some (some e') := he
    rw [setN_eq] at he
    by_cases hj : j = i
    · subst hj
      by_cases hl : j < s.sl.length
      · rw [List.getElem?_set_self hl] at he
        cases he
        exact ⟨v, by rw [List.getElem?_set_self (by rw [← c.slen]; exact hl)], h⟩
      · rw [List.getElem?_eq_none (by simpa using Nat.le_of_not_lt hl)] at he
        cases he
    · rw [List.getElem?_set_ne (fun z => hj z.symm)] at he
      obtain ⟨w, w1, w2⟩ := c.slots j e' he
      exact ⟨w, by rw [List.getElem?_set_ne (fun z => hj z.symm)]; exact w1, w2⟩
  · show (setN s.sl i (some e)).length = (σ.set i (some v)).length
    rw [setN_eq, List.length_set, List.length_set]
    exact c.slen
/-- less is told: slots forgotten, the cells behind dropped -/
structure Wk (p q : S) : Prop where
  sl : ∀ (i : Nat) (e : E), q.sl[i]? = some (some e) → p.sl[i]? = some (some e)
  len : q.sl.length = p.sl.length
  ce : q.ce <+: p.ce
  ar : q.ar = p.ar
  fit : q.ar ≤ q.ce.length
def E.lt (n : Nat) : E → Bool
  | .d _ => true
  | .r k => decide (k < n)
theorem Cz.weak {s' : S} (c : Cz X F as G H σ s) (w : Wk s s') (h1 : ∀ (i : Nat) (e : E), s'.sl[i]? = some (some e) → e.lt s'.ce.length = true) (h2 : ∀ (k : Nat) (kd : Kd) (es : List E), s'.ce[k]? = some (.nd kd es) → ∀ e ∈ es, E.lt s'.ce.length e = true) :
    Cz X F (as.take s'.ce.length) G H σ s' := by
  have le : s'.ce.length ≤ as.length := by rw [c.len]; exact w.ce.length_le
  have gt : ∀ {k : Nat} {a : Addr}, (as.take s'.ce.length)[k]? = some a → as[k]? = some a := fun {k a} q => by
    have l := (List.getElem?_eq_some_iff.mp q).1
    rw [List.length_take] at l
    rw [List.getElem?_take_of_lt (by omega)] at q
    exact q
  have tg : ∀ {k : Nat} {a : Addr}, k < s'.ce.length → as[k]? = some a → (as.take s'.ce.length)[k]? = some a := fun {k a} l q => by
    rw [List.getElem?_take_of_lt l]; exact q
  have ve : ∀ {v : V} {e : E}, VE X.K G as v e → e.lt s'.ce.length = true → VE X.K G (as.take s'.ce.length) v e := fun {v e} q l => by
    cases e with
    | d x => exact q
    | r k =>
      obtain ⟨a, q1, q2⟩ := q
      exact ⟨a, tg (by simpa [E.lt] using l) q1, q2⟩
  have ves : ∀ {vs : List V} {es : List E}, VEs X.K G as vs es → (∀ e ∈ es, E.lt s'.ce.length e = true) → VEs X.K G (as.take s'.ce.length) vs es := by
    intro vs es h
    induction h with
    | nil => intro _; exact .nil
    | cons h _ ih => intro l; exact .cons (ve h (l _ List.mem_cons_self)) (ih fun e he => l e (List.mem_cons_of_mem _ he))
  have pf : F.A0 <+: as.take s'.ce.length := by
    obtain ⟨t, ht⟩ := c.pre
    have hl : F.A0.length ≤ s'.ce.length := by rw [c.har, ← w.ar]; exact w.fit
    refine ⟨t.take (s'.ce.length - F.A0.length), ?_⟩
    rw [← ht, List.take_append, List.take_of_length_le hl]
  refine ⟨c.sub, c.base, c.new, c.frame, by rw [List.length_take]; omega, pf, c.nd.sublist (List.take_sublist _ _), fun k a kd es q1 q2 => c.own k a kd es (gt q1) (pre_get w.ce q2), fun a ha => c.fresh a (List.mem_of_mem_take ha), fun a ha => c.there a (List.mem_of_mem_take ha), fun k kd es q => ?_, fun i e he => ?_, by rw [w.len]; exact c.slen, by rw [w.ar]; exact c.har⟩
  · obtain ⟨a, vs, q1, q2, q3⟩ := c.cells k kd es (pre_get w.ce q)
    exact ⟨a, vs, tg (List.getElem?_eq_some_iff.mp q).1 q1, q2, ves q3 (h2 k kd es q)⟩
  · obtain ⟨v, q1, q2⟩ := c.slots i e (w.sl i e he)
    exact ⟨v, q1, ve q2 (h1 i e he)⟩
end
end DL
namespace DL
open PySem PySem.Spec PyProof.Rows L2
variable {X : Cx} {F : Fr} {s : S}
/-! ### a context: what every rule asks -/
structure Bx (X : Cx) (k : Nat) : Prop where
  calm : X.calm = true
  nd : X.N.Nodup
  po : PassesOwn (model X.prog X.w) X.A X.env X.xe
  room : Room k X.A
theorem Bx.hu {k : Nat} (B : Bx X k) : X.A.units + 1 < cLine := hu_of B.room
structure GlB (X : Cx) (x : Str) : Prop where
  gl : Gl X x
  mg : X.mg x = none
structure NmW (X : Cx) (i : Nat) (x : Str) : Prop where
  nm : X.N[i]? = some x
  nd : X.N.Nodup
  loc : Loc X.env.scope x
  hf : X.fn x = true ∨ X.env.scope.names.lookup x = some .local
/-! ### builtins -/
def NoStar (e : Expr) : Prop := ∀ (es : List Expr) (env : Env), starEach (e :: es) env = (false, eval e env) :: starEach es env
section
variable {e a b c : Expr} {es rest : List Expr} {Φ : E → S → Prop} {Ψ : Bool → S → Prop} {pos p p2 : Pos} {x : Str} {id T : String} {r : List V → Hp → VK → Prop}
theorem je_cb (hc : CallR X (.builtin id) r) (g : GlB X x) (hv : bootBuiltins x = some (.builtin id)) (h : JA X F (a :: es) s fun vs s1 => JV X F r vs s1 Φ) (hn : x ≠ "__name__" := by decide) (hdb : (x == ("__debug__" : Str)) = false := by decide)
    (he : starEach (a :: es) X.env = (false, eval a X.env) :: starEach es X.env := by rfl) (hpl : (backTo pos (starEach es X.env)).any (·.1) = false := by rfl) : JE X F (.Call (.Name x p) (a :: es) [] pos) s Φ :=
  je_of (pe_callB hc g.gl g.mg hv (pa_sem X _) hn hdb he hpl) fun as G H σ Q c k => h as G H σ _ c fun vs as1 G1 H1 es1 s1 c1 x1 ves h1 => h1 as1 G1 H1 σ vs Q c1 ves fun v as' G' H' e' s' c' x ve q => k v as' G' H' e' s' c' (x1.trans x) ve q
theorem je_ct (hc : CallR X (.type T) r) (g : GlB X x) (hv : bootBuiltins x = some (.type T)) (h : JA X F (a :: es) s fun vs s1 => JV X F r vs s1 Φ) (hn : x ≠ "__name__" := by decide) (hdb : (x == ("__debug__" : Str)) = false := by decide)
    (he : starEach (a :: es) X.env = (false, eval a X.env) :: starEach es X.env := by rfl) (hpl : (backTo pos (starEach es X.env)).any (·.1) = false := by rfl) : JE X F (.Call (.Name x p) (a :: es) [] pos) s Φ :=
  je_of (pe_callTy hc g.gl g.mg hv (pa_sem X _) hn hdb he hpl) fun as G H σ Q c k => h as G H σ _ c fun vs as1 G1 H1 es1 s1 c1 x1 ves h1 => h1 as1 G1 H1 σ vs Q c1 ves fun v as' G' H' e' s' c' x ve q => k v as' G' H' e' s' c' (x1.trans x) ve q
/-- len -/
def LenX (K : PySem.W.Frag) (v : V) (H : Hp) (n : Nat) : Prop := (∃ y, v = .str y ∧ y.length ≤ sizeLine ∧ n = y.length) ∨ ∃ p, v = .ref p ∧ ((∃ xs, SqL K H p xs ∧ n = xs.length) ∨ (∃ xs, SqT K H p xs ∧ n = xs.length) ∨ ∃ kvs, Rd H p (.dK kvs) ∧ n = kvs.length)
def rLen (K : PySem.W.Frag) : List V → Hp → VK → Prop := fun xs H Q => ∃ x n, xs = [x] ∧ LenX K x H n ∧ Q (.int n) H
theorem call_lenX : CallR X (.builtin "len") (rLen X.K) := by
  intro pins st σ H xs us Q I r h
  obtain ⟨x, n, rfl, e, q⟩ := h
  rcases e with ⟨y, rfl, hy, rfl⟩ | ⟨p, rfl, e⟩
  · exact call_len_str pins st σ H _ us Q I r ⟨y, rfl, hy, q⟩
  · rcases e with ⟨ys, hy, rfl⟩ | ⟨ys, hy, rfl⟩ | ⟨kvs, hy, rfl⟩
    · exact call_len_seq pins st σ H _ us Q I r ⟨p, ys, rfl, .inl hy, q⟩
    · exact call_len_seq pins st σ H _ us Q I r ⟨p, ys, rfl, .inr hy, q⟩
    · obtain ⟨u, rfl, rx⟩ := vals1 r
      obtain rfl : u = Value.ref p := rx
      exact d_len I hy fun t s' I' => ⟨.int kvs.length, H, I', ⟨_, rfl⟩, q⟩
theorem je_len (g : GlB X "len") (h : JE X F a s fun e s1 => JV X F (rLen X.K) [e] s1 Φ) (ns : NoStar a := by intro _ _; rfl) : JE X F (.Call (.Name "len" p) [a] [] pos) s Φ :=
  je_cb call_lenX g PySem.boot_len (ja_cons (h.mono fun e s1 q => ja_nil q) (ns _ _)) (he := ns _ _)
theorem jv_len_nd {e : E} {kd : Kd} {es : List E} (h : s.node e = some (kd, es)) (hk : ∀ C fs, kd ≠ .ins C fs) (q : Φ (.d (.int (es.length : Int))) s) : JV X F (rLen X.K) [e] s Φ :=
  fun as G H σ vs Q c ves k => by
    cases ves with
    | cons ve t =>
      cases t
      obtain ⟨a, ws, rfl, n, we⟩ := c.node ve h
      refine ⟨_, es.length, rfl, .inr ⟨a, rfl, ?_⟩, k _ as G H _ s c (Ext.refl _ _) (Rep.int _) q⟩
      have hl := Paired.length we
      cases kd with
      | lst => exact .inl ⟨ws, n, hl.symm⟩
      | tup => exact .inr (.inl ⟨ws, n, hl.symm⟩)
      | dct ks =>
        obtain ⟨n1, n2, od, n3⟩ := n
        exact .inr (.inr ⟨_, .inr ⟨od, n3⟩, by rw [List.length_zip, n1, Nat.min_self, hl]⟩)
      | ins C fs => exact absurd rfl (hk C fs)
theorem jv_len_str {z : Str} (hz : z.length ≤ sizeLine) (q : Φ (.d (.int (z.length : Int))) s) : JV X F (rLen X.K) [.d (.str z)] s Φ :=
  fun as G H σ vs Q c ves k => by
    cases ves with
    | cons ve t =>
      cases t
      cases ve
      exact ⟨_, z.length, rfl, .inl ⟨z, rfl, hz, rfl⟩, k _ as G H _ s c (Ext.refl _ _) (Rep.int _) q⟩
/-- int(x), abs(x), str(i), min, max of two ints -/
def rInt : List V → Hp → VK → Prop := fun xs H Q => (∃ i, xs = [.int i] ∧ Q (.int i) H) ∨ ∃ k, xs = [.bl k] ∧ Q (.int (if k then 1 else 0)) H
theorem je_intc (g : GlB X "int") (h : JE X F a s fun e s1 => JV X F rInt [e] s1 Φ) (ns : NoStar a := by intro _ _; rfl) : JE X F (.Call (.Name "int" p) [a] [] pos) s Φ :=
  je_ct (r := rInt) call_int1 g PyProof.Rows.boot_int (ja_cons (h.mono fun e s1 q => ja_nil q) (ns _ _)) (he := ns _ _)
theorem jv_int_i {i : Int} (q : Φ (.d (.int i)) s) : JV X F rInt [.d (.int i)] s Φ := fun as G H σ vs Q c ves k => by
  cases ves with
  | cons ve t => cases t; cases ve; exact .inl ⟨i, rfl, k _ as G H _ s c (Ext.refl _ _) (Rep.int _) q⟩
theorem jv_int_b {i : Bool} (q : Φ (.d (.int (if i then 1 else 0))) s) : JV X F rInt [.d (.bl i)] s Φ := fun as G H σ vs Q c ves k => by
  cases ves with
  | cons ve t => cases t; cases ve; exact .inr ⟨i, rfl, k _ as G H _ s c (Ext.refl _ _) (Rep.int _) q⟩
def rAbs : List V → Hp → VK → Prop := fun xs H Q => ∃ i, xs = [.int i] ∧ Q (.int (if i < 0 then -i else i)) H
theorem je_abs (g : GlB X "abs") (h : JE X F a s fun e s1 => ∃ i, e = .d (.int i) ∧ Φ (.d (.int (if i < 0 then -i else i))) s1) (ns : NoStar a := by intro _ _; rfl) : JE X F (.Call (.Name "abs" p) [a] [] pos) s Φ :=
  je_cb (r := rAbs) call_abs g PyProof.Rows.boot_abs (ja_cons (h.mono fun e s1 ⟨i, ei, q⟩ => ja_nil fun as G H σ vs Q c ves k => by
    subst ei
    cases ves with
    | cons ve t => cases t; cases ve; exact ⟨i, rfl, k _ as G H _ s1 c (Ext.refl _ _) (Rep.int _) q⟩) (ns _ _)) (he := ns _ _)
def rStrI : List V → Hp → VK → Prop := fun xs H Q => ∃ i : Int, xs = [.int i] ∧ i.natAbs.log2 < 1920 ∧ Q (.str (toString i)) H
theorem je_stri (g : GlB X "str") (h : JE X F a s fun e s1 => ∃ i : Int, e = .d (.int i) ∧ i.natAbs.log2 < 1920 ∧ Φ (.d (.str (toString i))) s1) (ns : NoStar a := by intro _ _; rfl) : JE X F (.Call (.Name "str" p) [a] [] pos) s Φ :=
  je_ct (r := rStrI) call_str_int g PyProof.Rows.boot_str (ja_cons (h.mono fun e s1 ⟨i, ei, h1, q⟩ => ja_nil fun as G H σ vs Q c ves k => by
    subst ei
    cases ves with
    | cons ve t => cases t; cases ve; exact ⟨i, rfl, h1, k _ as G H _ s1 c (Ext.refl _ _) (Rep.str _) q⟩) (ns _ _)) (he := ns _ _)
/-- isinstance(x, T), T a built-in type -/
def tyE (s : S) : E → Option String
  | .d .non => some "NoneType"
  | .d (.bl _) => some "bool"
  | .d (.int _) => some "int"
  | .d (.str _) => some "str"
  | .d (.nd .tup _) => some "tuple"
  | .d (.nd .lst _) => some "list"
  | .d (.nd (.dct _) _) => some "dict"
  | .d (.nd (.ins _ _) _) => none
  | .r i => match nth s.ce i with
    | some (.nd .tup _) => some "tuple"
    | some (.nd .lst _) => some "list"
    | some (.nd (.dct _) _) => some "dict"
    | _ => none
theorem tyx_node {K : PySem.W.Frag} {H : Hp} {a : Addr} {vs : List V} {kd : Kd} {t : String} (n : NodeAt K H a vs kd) (h : (match kd with | .tup => some "tuple" | .lst => some "list" | .dct _ => some "dict" | .ins _ _ => none) = some t) : TyX K H (.ref a) (.type t) := by
  cases kd with
  | tup =>
    cases h
    rcases n with (n | ⟨o, n⟩) | ⟨o, its, k, h1, h2, h3, h4, h5⟩
    · exact .base (.tup n)
    · exact .fTuple n
    · exact .kTuple h1 h2
  | lst =>
    cases h
    rcases n with (n | ⟨o, n⟩) | ⟨o, its, k, h1, h2, h3, h4, h5⟩
    · exact .base (.lst n)
    · exact .base (.frz n)
    · exact .kList h1 h2
  | dct ks =>
    cases h
    obtain ⟨_, _, od, n⟩ := n
    exact .fDict n
  | ins C fs => cases h
theorem tyx_of {as : List Addr} {G H : Hp} {σ : L2.St} (c : Cz X F as G H σ s) {v : V} {e : E} {t : String} (ve : VE X.K G as v e) (h : tyE s e = some t) : TyX X.K H v (.type t) := by
  cases e with
  | d x =>
    cases ve with
    | non => cases h; exact .base .non
    | bl b => cases h; exact .base (.bl b)
    | int i => cases h; exact .base (.int i)
    | str z => cases h; exact .base (.str z)
    | @nd a vs k ds n r =>
      refine tyx_node (n.mono c.sub) ?_
      cases k <;> exact h
  | r i =>
    have h : (match nth s.ce i with
      | some (.nd .tup _) => some "tuple"
      | some (.nd .lst _) => some "list"
      | some (.nd (.dct _) _) => some "dict"
      | _ => none) = some t := h
    rw [nth_eq] at h
    cases hc : s.ce[i]? with
    | none => rw [hc] at h; cases h
    | some cl =>
      rw [hc] at h
      cases cl with
      | gone => cases h
      | nd k es =>
        obtain ⟨a, h1, h2⟩ := ve
        obtain ⟨a', vs, g1, g2, g3⟩ := c.cells i _ _ hc
        rw [h1] at g1
        cases g1
        subst h2
        refine tyx_node g2.node ?_
        cases k <;> exact h
theorem je_isi {x2 : Str} {T : String} (g : GlB X "isinstance") (gt : GlB X x2) (hv : bootBuiltins x2 = some (.type T)) (h : JE X F a s fun e s1 => ∃ t k, tyE s1 e = some t ∧ kitB t T = some k ∧ Φ (.d (.bl k)) s1)
    (hn : x2 ≠ "__name__" := by decide) (hdb : (x2 == ("__debug__" : Str)) = false := by decide) (ns : NoStar a := by intro _ _; rfl) : JE X F (.Call (.Name "isinstance" p) [a, .Name x2 p2] [] pos) s Φ :=
  je_of (pe_callB call_isi g.gl g.mg PyProof.Rows.boot_isinstance (pa_cons (pe_sem X a) (pa_cons (pe_bltn (v := .ty T) gt.gl gt.mg hv rfl hn hdb) pa_nil) (ns _ _)) (he := ns _ _)) fun as G H σ Q c k => h as G H σ _ c fun v as1 G1 H1 e1 s1 c1 x1 ve ⟨t, kk, h1, h2, q⟩ =>
    ⟨v, .ty T, .type t, .type T, kk, rfl, .ty T, tyx_of c1 ve h1, kit_ty h2, k _ as1 G1 H1 _ s1 c1 x1 (Rep.bl _) q⟩
/-- truth of a value, as a test -/
def truE (s : S) : E → Option Bool
  | .d .non => some false
  | .d (.bl b) => some b
  | .d (.int i) => some (i != 0)
  | e => match s.node e with
    | some (.lst, es) => some (!es.isEmpty)
    | some (.tup, es) => some (!es.isEmpty)
    | _ => none
/-! ### new objects -/
def hoOf : Kd → List V → HO
  | .tup, vs => .tup vs
  | .lst, vs => .lst vs
  | .dct ks, vs => .dK (ks.zip vs)
  | .ins _ _, vs => .lst vs
/-- the expression makes a new object: its kind, its members -/
def JN (X : Cx) (F : Fr) (e : Expr) (s : S) (Θ : Kd → List E → S → Prop) : Prop := ∀ as G H σ (Q : VK), Cz X F as G H σ s →
  (∀ q vs as' G' H' kd es s', Cz X F as' G' H' σ s' → Ext as as' G G' → H' q = none → (∀ ks, kd = .dct ks → ks.length = vs.length ∧ ks.Nodup) → VEs X.K G' as' vs es → Θ kd es s' → Q (.ref q) (upd H' q (hoOf kd vs))) → semE X e σ H Q
theorem JN.mono {Θ Θ' : Kd → List E → S → Prop} (h : JN X F e s Θ) (m : ∀ k es s, Θ k es s → Θ' k es s) : JN X F e s Θ' := fun as G H σ Q c k => h as G H σ Q c fun q vs as' G' H' kd es s' c' x hq hk ve t => k q vs as' G' H' kd es s' c' x hq hk ve (m _ _ _ t)
theorem je_new {kd : Kd} (h : JN X F e s fun k es s1 => k = kd ∧ ∃ ds, dsOf es = some ds ∧ Φ (.d (.nd kd ds)) s1) (hk : kd = .tup ∨ kd = .lst) : JE X F e s Φ :=
  fun as G H σ Q c k => h as G H σ Q c fun q vs as' G' H' k' es s' c' x hq _ ve ⟨e1, ds, e2, t⟩ => by
    subst e1
    rw [dsOf_eq e2] at ve
    have sg : Same G' (upd G' q (hoOf k' vs)) := same_new (c'.gnone hq)
    refine k _ as' (upd G' q (hoOf k' vs)) _ (.d (.nd k' ds)) s' (c'.addG hq) (x.trans ⟨List.prefix_refl _, sg⟩) (.nd ?_ (ve.reps.mono sg)) t
    rcases hk with rfl | rfl
    · exact SqT.of upd_same
    · exact SqL.of upd_same
/-- .. owned -/
theorem je_own (h : JN X F e s fun k es s1 => k = .lst ∧ Φ (.r s1.ce.length) (s1.push .lst es)) : JE X F e s Φ :=
  fun as G H σ Q c k => h as G H σ Q c fun q vs as' G' H' k' es s' c' x hq _ ve ⟨e1, t⟩ => by
    subst e1
    exact k _ _ G' _ (.r s'.ce.length) _ (c'.addO (kd := .lst) hq upd_same ve) (x.trans ⟨pre_snoc, Same.refl _⟩) ⟨q, by rw [← c'.len, List.getElem?_append_right (Nat.le_refl _)]; simp, rfl⟩ t
theorem sem_lock {σ : L2.St} {H : Hp} {Q : VK} (h : semE X e σ H fun v H' => ∃ d u, H' d = some u ∧ Mut (some u) ∧ ∀ od, Q v (upd H' d (.frz od u))) : semE X e σ H Q := fun pins st I =>
  thn (h pins st I) fun v s1 ⟨x, H1, I1, r, d, u, hd, mu, q⟩ => by
    obtain ⟨od, I2⟩ := I1.lock hd mu
    exact ⟨x, _, I2, r, q od⟩
theorem je_ownD (h : JN X F e s fun k es s1 => ∃ ks, k = .dct ks ∧ Φ (.r s1.ce.length) (s1.push (.dct ks) es)) : JE X F e s Φ :=
  fun as G H σ Q c k => sem_lock (h as G H σ _ c fun q vs as' G' H' k' es s' c' x hq hks ve ⟨ks, e1, t⟩ => by
    subst e1
    obtain ⟨l1, l2⟩ := hks ks rfl
    refine ⟨q, _, upd_same, trivial, fun od => ?_⟩
    rw [upd_upd]
    exact k _ _ G' _ (.r s'.ce.length) _ (c'.addO (kd := .dct ks) hq ⟨l1, l2, od, upd_same⟩ ve) (x.trans ⟨pre_snoc, Same.refl _⟩) ⟨q, by rw [← c'.len, List.getElem?_append_right (Nat.le_refl _)]; simp, rfl⟩ t)
/-- freezing what an expression hands back -/
theorem je_frz (h : JE X F e s fun e1 s1 => ∃ k kd es ds, e1 = .r k ∧ nth s1.ce k = some (.nd kd es) ∧ dsOf es = some ds ∧ (∀ C fs, kd ≠ .ins C fs) ∧ s1.ar ≤ k ∧ Φ (.d (.nd kd ds)) (s1.fz k (.nd kd ds))) : JE X F e s Φ :=
  fun as G H σ Q c k => h as G H σ Q c fun v as' G' H' e1 s' c' x ve ⟨j, kd, es, ds, e1, e2, e3, e4, e5, t⟩ => by
    subst e1
    rw [dsOf_eq e3] at e2
    obtain ⟨a, G2, h1, x2, c2, rep⟩ := c'.fz e2 e4 e5
    obtain ⟨b, h2, rfl⟩ := ve
    rw [h1] at h2
    cases h2
    exact k _ as' G2 H' _ _ c2 (x.trans x2) rep t
/-- displays -/
theorem jn_lst {Θ : Kd → List E → S → Prop} (h : JA X F es s fun vs s1 => vs.length ≤ sizeLine ∧ Θ .lst vs s1) : JN X F (.List es pos) s Θ := fun as G H σ Q c k => PE.sem (pe_lst (pa_sem X es)) (h as G H σ _ c fun vs as1 G1 H1 es1 s1 c1 x1 ves ⟨h1, h2⟩ =>
  ⟨by rw [Paired.length ves]; exact h1, fun q hq => k q vs as1 G1 H1 .lst es1 s1 c1 x1 hq (fun ks z => by cases z) ves h2⟩)
theorem jn_tup {Θ : Kd → List E → S → Prop} {k1 : Nat} (h : JA X F es s fun vs s1 => vs.length ≤ sizeLine ∧ Θ .tup vs s1) : JN X F (.Tuple es k1 pos) s Θ := fun as G H σ Q c k => PE.sem (pe_tup (pa_sem X es)) (h as G H σ _ c fun vs as1 G1 H1 es1 s1 c1 x1 ves ⟨h1, h2⟩ =>
  ⟨by rw [Paired.length ves]; exact h1, fun q hq => k q vs as1 G1 H1 .tup es1 s1 c1 x1 hq (fun ks z => by cases z) ves h2⟩)
theorem je_tup {k1 : Nat} (h : JA X F es s fun vs s1 => vs.length ≤ sizeLine ∧ ∃ ds, dsOf vs = some ds ∧ Φ (.d (.nd .tup ds)) s1) : JE X F (.Tuple es k1 pos) s Φ :=
  je_new (kd := .tup) (jn_tup (fun as G H σ Q c k => h as G H σ Q c fun vs as' G' H' es' s' c' x ve ⟨h1, ds, h2, h3⟩ => k vs as' G' H' es' s' c' x ve ⟨h1, rfl, ds, h2, h3⟩)) (.inl rfl)
theorem je_lst (h : JA X F es s fun vs s1 => vs.length ≤ sizeLine ∧ ∃ ds, dsOf vs = some ds ∧ Φ (.d (.nd .lst ds)) s1) : JE X F (.List es pos) s Φ :=
  je_new (kd := .lst) (jn_lst (fun as G H σ Q c k => h as G H σ Q c fun vs as' G' H' es' s' c' x ve ⟨h1, ds, h2, h3⟩ => k vs as' G' H' es' s' c' x ve ⟨h1, rfl, ds, h2, h3⟩)) (.inr rfl)
theorem jn_dict0 {Θ : Kd → List E → S → Prop} (h : Θ (.dct []) [] s) : JN X F (.Dict [] [] pos) s Θ := fun as G H σ Q c k => PE.sem pe_dnewK fun q hq => k q [] as G H (.dct []) [] s c (Ext.refl _ _) hq (fun ks z => by cases z; exact ⟨rfl, List.nodup_nil⟩) .nil h
end
/-! ### statements -/
section
variable {e a b c : Expr} {es rest : List Expr} {st : Stmt} {sts : List Stmt} {P : Po} {pos p p' : Pos} {x : Str}
theorem jss_nil (h : P.nx s) : JSs X F [] s P := fun as G H σ D c k => PSs.sem pss_nil (k.nx as G H σ s c (Same.refl _) h)
theorem jss_cons (h : JS X F st s { P with nx := fun s1 => JSs X F sts s1 P }) : JSs X F (st :: sts) s P := fun as G H σ D c k =>
  PSs.sem (pss_cons (ps_sem X st) (pss_sem X sts)) (h as G H σ _ c ⟨fun as' G' H' σ' s' c' x q => q as' G' H' σ' D c' (k.exs x), k.rt, k.bk, k.ct⟩)
theorem js_set {i : Nat} (n : NmW X i x) (h : JE X F e s fun e1 s1 => P.nx (s1.set i e1)) (hs : swapsWith e (some (.Name x p')) pos.line X.env = pure false := by rfl) : JS X F (.Assign [.Name x p'] e pos) s P :=
  fun as G H σ D c k => PS.sem (ps_set n.nd n.nm n.loc (pe_sem X e) hs n.hf) (h as G H σ _ c fun v as1 G1 H1 e1 s1 c1 x1 ve q => k.nx as1 G1 H1 _ _ (c1.set ve) x1.sub q)
theorem js_ret (h : JE X F e s P.rt) : JS X F (.Return (some e) pos) s P := fun as G H σ D c k => PS.sem (ps_ret (pe_sem X e)) (h as G H σ _ c fun v as1 G1 H1 e1 s1 c1 x1 ve q => k.rt v as1 G1 H1 σ e1 s1 c1 x1.sub ve q)
theorem js_retN (h : P.rt (.d .non) s) : JS X F (.Return none pos) s P := fun as G H σ D c k => PS.sem ps_retN (k.rt _ as G H σ _ s c (Same.refl _) Rep.non h)
theorem js_break (h : P.bk s) : JS X F (.Break pos) s P := fun as G H σ D c k => PS.sem ps_break (k.bk as G H σ s c (Same.refl _) h)
theorem js_cont (h : P.ct s) : JS X F (.Continue pos) s P := fun as G H σ D c k => PS.sem ps_continue (k.ct as G H σ s c (Same.refl _) h)
theorem js_expr (h : JE X F e s fun _ s1 => P.nx s1) (hs : swapsWith e none pos.line X.env = pure false := by rfl) : JS X F (.Expr e pos) s P := fun as G H σ D c k => PS.sem (ps_expr (pe_sem X e) hs) (h as G H σ _ c fun v as1 G1 H1 e1 s1 c1 x1 ve q => k.nx as1 G1 H1 σ s1 c1 x1.sub q)
theorem js_doc {z : Str} {j : Nat} (h : P.nx s) : JS X F (.Expr (.Constant (.str z) j p) pos) s P := fun as G H σ D c k => PS.sem ps_doc (k.nx as G H σ s c (Same.refl _) h)
theorem js_if {t u : List Stmt} (h : JT X F c s fun k s1 => if k = true then JSs X F t s1 P else JSs X F u s1 P) : JS X F (.If c t u pos) s P := fun as G H σ D c k =>
  PS.sem (ps_if (pt_sem X _) (pss_sem X t) (pss_sem X u)) (h as G H σ _ c fun b as1 G1 H1 s1 c1 x1 q => by
    cases b with
    | true =>
      simp only [if_true] at q ⊢
      exact q as1 G1 H1 σ D c1 (k.ext x1)
    | false => exact q as1 G1 H1 σ D c1 (k.ext x1))
/-- a, b = x, y -/
theorem js_par {i j : Nat} {y : Str} {px py pt pt2 : Pos} {kt k2 : Nat} {B : Nat} (bx : Bx X B) (n : NmW X i x) (m : NmW X j y) (hij : i ≠ j) (lx : X.env.scope.names.lookup x = some .local) (ly : X.env.scope.names.lookup y = some .local)
    (hw : swappedStores [.Tuple [.Name x px, .Name y py] kt pt] (.Tuple [a, b] k2 pt2) X.env = pure (some [x, y]))
    (h : JE X F a s fun e1 s1 => JE X F b s1 fun e2 s2 => P.nx ((s2.set i e1).set j e2)) 
    (hs : swapsWithSole [.Tuple [.Name x px, .Name y py] kt pt] (.Tuple [a, b] k2 pt2) pos.line X.env = pure false := by rfl) (ns : NoStar a := by intro _ _; rfl) (ns2 : NoStar b := by intro _ _; rfl) : JS X F (.Assign [.Tuple [.Name x px, .Name y py] kt pt] (.Tuple [a, b] k2 pt2) pos) s P :=
  fun as G H σ D c k => PS.sem (ps_par bx.calm n.nd n.nm m.nm hij lx ly (pa_cons (pe_sem X a) (pa_cons (pe_sem X b) pa_nil (ns2 _ _)) (ns _ _)) hw hs)
    (h as G H σ _ c fun v1 as1 G1 H1 e1 s1 c1 x1 ve1 h1 => h1 as1 G1 H1 σ _ c1 fun v2 as2 G2 H2 e2 s2 c2 x2 ve2 q => ⟨v1, v2, rfl, k.nx as2 G2 H2 _ _ ((c2.set (x2.ve ve1)).set ve2) (x1.trans x2).sub q⟩)
/-! targets -/
theorem jg_name {i : Nat} {v : E} {Φ : S → Prop} (n : NmW X i x) (h : Φ (s.set i v)) : JG X F (.Name x p) v s Φ := fun as G H σ u Q c ve k => PG.sem (pg_name n.nd n.nm n.loc n.hf) (k as G H _ _ (c.set ve) (Ext.refl _ _) h)
def JGs (X : Cx) (F : Fr) (ts : List Expr) (es : List E) (s : S) (Φ : S → Prop) : Prop := ∀ as G H σ vs (Q : L2.St → Hp → Prop), Cz X F as G H σ s → VEs X.K G as vs es →
  (∀ as' G' H' σ' s', Cz X F as' G' H' σ' s' → Ext as as' G G' → Φ s' → Q σ' H') →
    ∀ pins st us, Inv X pins σ H st → Vals vs us → wpAny (model X.prog X.w) X.A (assignInOrder ((assignEach ts X.env).map (·.2)) us) (fun _ s' => ∃ σ' H', Inv X pins σ' H' s' ∧ Q σ' H') X.xe st
def semGs (X : Cx) (ts : List Expr) : TGs := fun vs σ H Q => ∀ pins st us, Inv X pins σ H st → Vals vs us → wpAny (model X.prog X.w) X.A (assignInOrder ((assignEach ts X.env).map (·.2)) us) (fun _ s' => ∃ σ' H', Inv X pins σ' H' s' ∧ Q σ' H') X.xe st
theorem pgs_sem (X : Cx) (ts : List Expr) : PGs X ts (semGs X ts) := ⟨fun pins s σ H vs us Q I r h => h pins s us I r⟩
theorem jgs_nil {Φ : S → Prop} (h : Φ s) : JGs X F [] [] s Φ := fun as G H σ vs Q c ve k pins st us I r => by
  cases ve
  exact pgs_nil.run pins st σ H [] us Q I r ⟨rfl, k as G H σ s c (Ext.refl _ _) h⟩
theorem jgs_cons {t : Expr} {ts : List Expr} {v : E} {vs : List E} {Φ : S → Prop} (h : JG X F t v s fun s1 => JGs X F ts vs s1 Φ) (hs : (assignEach (t :: ts) X.env).map (·.2) = assign t X.env :: (assignEach ts X.env).map (·.2) := by rfl) : JGs X F (t :: ts) (v :: vs) s Φ :=
  fun as G H σ ws Q c ve k pins st us I r => by
    cases ve with
    | cons v1 v2 =>
      refine (pgs_cons (pg_sem X t) (u := fun vs σ H Q => ∀ pins st us, Inv X pins σ H st → Vals vs us → wpAny (model X.prog X.w) X.A (assignInOrder ((assignEach ts X.env).map (·.2)) us) (fun _ s' => ∃ σ' H', Inv X pins σ' H' s' ∧ Q σ' H') X.xe st) ⟨fun pins s σ H vs us Q I r h => h pins s us I r⟩ hs).run pins st σ H _ us Q I r ⟨_, _, rfl, ?_⟩
      exact h as G H σ _ _ c v1 fun as1 G1 H1 σ1 s1 c1 x1 q => q as1 G1 H1 σ1 _ Q c1 (x1.ves v2) fun as' G' H' σ' s' c' x t => k as' G' H' σ' s' c' (x1.trans x) t
theorem jg_tup {k1 : Nat} {v : E} {vs : List E} {Φ : S → Prop} {B : Nat} (bx : Bx X B) (hn : s.node v = some (.tup, vs)) (hl : vs.length = es.length) (h : JGs X F es vs s Φ)
    (hn2 : (assignEach es X.env).length = es.length := by rfl) (hst : (assignEach es X.env).findIdx? (·.1) = none := by rfl) : JG X F (.Tuple es k1 p) v s Φ :=
  fun as G H σ u Q c ve k => by
    obtain ⟨a, ws, rfl, n, we⟩ := c.node ve hn
    exact PG.sem (pg_tup (n := es.length) bx.calm (pgs_sem X es) hn2 hst) ⟨a, ws, rfl, n, by rw [Paired.length we, hl], fun pins st us I r => h as G H σ ws Q c we k pins st us I r⟩
theorem js_asg {tg : Expr} (h : JE X F e s fun e1 s1 => JG X F tg e1 s1 P.nx) (hs : swapsWithSole [tg] e pos.line X.env = pure false := by rfl) (hw : swappedStores [tg] e X.env = pure none := by rfl)
    (h1 : (assignEach [tg] X.env).map (·.2) = [assign tg X.env] := by rfl) : JS X F (.Assign [tg] e pos) s P :=
  fun as G H σ D c k => PS.sem (ps_asg (pe_sem X e) (pg_sem X tg) hs hw h1) (h as G H σ _ c fun v as1 G1 H1 e1 s1 c1 x1 ve q => q as1 G1 H1 σ v _ c1 ve fun as' G' H' σ' s' c' x t => k.nx as' G' H' σ' s' c' (x1.trans x).sub t)
/-- xs[i] = v, xs owned -/
theorem jg_setL {o i : Expr} {v : E} {Φ : S → Prop} (h : JE X F o s fun eo s1 => JE X F i s1 fun ei s2 => ∃ k n es j, eo = .r k ∧ ei = .d (.int n) ∧ nth s2.ce k = some (.nd .lst es) ∧ ixN es.length n = some j ∧ Φ (s2.put k .lst (es.set j v)))
    (ha : ∀ v, assign (.Subscript o i p) X.env v = (do
      let ov ← holding [v] (eval o X.env)
      let iv ← holding [v, ov] (eval i X.env)
      standAt p
      holding [v, ov, iv] (setItem ov iv v)
      release [v, ov, iv] []) := by intro _; rfl) : JG X F (.Subscript o i p) v s Φ :=
  fun as G H σ u Q c ve k => PG.sem (pg_sub (pe_sem X o) (pe_sem X i) set_list ha) (h as G H σ _ c fun v1 as1 G1 H1 e1 s1 c1 x1 ve1 h1 => h1 as1 G1 H1 σ _ c1 fun v2 as2 G2 H2 e2 s2 c2 x2 ve2 ⟨kk, n, es, j, q1, q2, q3, q4, q5⟩ => by
    subst q1 q2
    cases ve2
    obtain ⟨a, ha, rfl⟩ := x2.ve ve1
    rw [nth_eq] at q3
    obtain ⟨a', vs, g1, g2, g3⟩ := c2.cells kk _ _ q3
    rw [ha] at g1
    cases g1
    have g2' : H2 a = some (.lst vs) := g2
    have hl := Paired.length g3
    refine ⟨a, vs, n, j, rfl, rfl, g2', by rw [hl]; exact q4, ?_⟩
    have vu := (x1.trans x2).ve ve
    have hv : VEs X.K G2 as2 (vs.set j u) (es.set j v) := by
      clear q4 q5 g2' g2 hl q3
      induction g3 generalizing j with
      | nil => exact .nil
      | cons r t ih =>
        cases j with
        | zero => exact .cons vu t
        | succ j => exact .cons r (ih j)
    exact k as2 G2 _ σ _ (c2.put (kd := .lst) q3 ha upd_same hv) (x1.trans x2) q5)
/-- xs.append(v), xs owned -/
theorem je_append {o e : Expr} {apos : Pos} {Φ : E → S → Prop} (h : JE X F o s fun eo s1 => ∃ k es0, eo = .r k ∧ nth s1.ce k = some (.nd .lst es0) ∧ JE X F e s1 fun v s2 => ∃ es, nth s2.ce k = some (.nd .lst es) ∧ es.length < sizeLine ∧ Φ (.d .non) (s2.put k .lst (es ++ [v])))
    (hbase : attributeBase o "append" X.env (eval o X.env) = eval o X.env := by rfl)
    (hfew : ((backTo pos (starEach (e :: []) X.env)).all (fun x => !x.1) && (backToKw pos (keywordEach [] X.env)).all (fun x => x.1.isSome)
      && decide ((e :: ([] : List Expr)).length + ([] : List Keyword).length + (if ([] : List Keyword).isEmpty then 0 else 1) < 30)) = true := by rfl)
    (hline : (apos.endLine == pos.line) = true := by rfl) (hs : NoStar e := by intro _ _; rfl) (hplain : (backTo pos (starEach [] X.env)).any (·.1) = false := by rfl) :
    JE X F (.Call (.Attribute o "append" apos) [e] [] pos) s Φ :=
  je_of (pe_bm PySem.F.plainAttrs_list PySem.F.slot_list_append PySem.F.type_list_append mt_append (pe_sem X o) (pa_cons (pe_sem X e) pa_nil (hs _ _)) hbase hfew hline (hs _ _) hplain) fun as G H σ Q c kk =>
    h as G H σ _ c fun v1 as1 G1 H1 e1 s1 c1 x1 ve1 ⟨k, es0, q1, q2, h1⟩ => by
      subst q1
      obtain ⟨a, ha, rfl⟩ := ve1
      rw [nth_eq] at q2
      obtain ⟨a', vs, g1, g2, g3⟩ := c1.cells k _ _ q2
      rw [ha] at g1
      cases g1
      refine ⟨.inl ⟨rfl, vs, SqL.of g2⟩, ?_⟩
      refine h1 as1 G1 H1 σ _ c1 fun v2 as2 G2 H2 e2 s2 c2 x2 ve2 ⟨es, w1, w2, w3⟩ => ?_
      rw [nth_eq] at w1
      obtain ⟨b, ws, y1, y2, y3⟩ := c2.cells k _ _ w1
      have ha2 := pre_get x2.pre ha
      rw [ha2] at y1
      cases y1
      have y2' : H2 a = some (.lst ws) := y2
      have hl := Paired.length y3
      refine ⟨a, ws, v2, rfl, rfl, y2', by rw [hl]; exact w2, ?_⟩
      exact kk _ as2 G2 _ _ _ (c2.put (kd := .lst) w1 ha2 upd_same (y3.snoc ve2)) (x1.trans x2) Rep.non w3
end
end DL
namespace DL
open PySem PySem.Spec PyProof.Rows L2
/-! ### a body's context -/
structure XIs (X : Cx) (P : Program) (w : World) (K : PySem.W.Frag) (mg : Str → Option Value) (base : Heap) (N : List Str) (sc : Scope) (k : Nat) : Prop where
  eP : X.prog = P
  eW : X.w = w
  eK : X.K = K
  eM : X.mg = mg
  eB : X.base = base
  eN : X.N = N
  eS : X.env.scope = sc
  calm : X.calm = true
  nd : N.Nodup
  xe : X.xe = fun _ _ => False
  room : Room k X.A
section
variable {X : Cx} {P : Program} {w : World} {K : PySem.W.Frag} {mg : Str → Option Value} {base : Heap} {N : List Str} {sc : Scope} {k : Nat}
theorem XIs.bx (h : XIs X P w K mg base N sc k) : Bx X k := ⟨h.calm, h.eN ▸ h.nd, by rw [h.xe]; exact PassesOwn.never, h.room⟩
theorem XIs.nmR (h : XIs X P w K mg base N sc k) {i : Nat} {x : Str} (h1 : N[i]? = some x) (h2 : Vis sc x) (h3 : (x == ("__debug__" : Str)) = false := by decide) (h4 : (x == ("__classdict__" : Str)) = false := by decide) : NmR X i x := ⟨by rw [h.eN]; exact h1, by rw [h.eS]; exact h2, h3, h4⟩
theorem XIs.nmW (h : XIs X P w K mg base N sc k) {i : Nat} {x : Str} (h1 : N[i]? = some x) (h2 : sc.names.lookup x = some .local) : NmW X i x := ⟨by rw [h.eN]; exact h1, h.eN ▸ h.nd, .inl (by rw [h.eS]; exact h2), .inr (by rw [h.eS]; exact h2)⟩
theorem XIs.nmC (h : XIs X P w K mg base N sc k) {i : Nat} {x : Str} (h1 : N[i]? = some x) (h2 : sc.names.lookup x = some .cell) (hf : X.fn x = true) : NmW X i x := ⟨by rw [h.eN]; exact h1, h.eN ▸ h.nd, .inr (by rw [h.eS]; exact h2), .inl hf⟩
theorem XIs.gl (h : XIs X P w K mg base N sc k) {x : Str} (h1 : sc.names.lookup x = some .globalImplicit) : Gl X x := by
  show X.env.scope.names.lookup x = _
  rw [h.eS]; exact h1
theorem XIs.glb (h : XIs X P w K mg base N sc k) {x : Str} (h1 : sc.names.lookup x = some .globalImplicit) (h2 : mg x = none) : GlB X x := ⟨h.gl h1, by rw [h.eM]; exact h2⟩
theorem XIs.loc (h : XIs X P w K mg base N sc k) {x : Str} (h1 : sc.names.lookup x = some .local) : X.env.scope.names.lookup x = some .local := by rw [h.eS]; exact h1
end
/-! ### what a def promises, over data -/
inductive Rt where
  | dat (x : D) | new (k : Kd) (ds : List D)
def RtAt (K : PySem.W.Frag) (G H' H : Hp) (v : V) : Rt → Prop
  | .dat x => Rep K G v x
  | .new k ds => ∃ a vs, v = .ref a ∧ H a = none ∧ G a = none ∧ CellAt H' a vs k ∧ Reps K G vs ds
abbrev RP := List D → (Rt → Prop) → Prop
/-- a def that owns none of its arguments -/
def spP (K : PySem.W.Frag) (R : RP) : Sp := fun vs H Q _ => ∃ G ds, Same G H ∧ Reps K G vs ds ∧ R ds fun r => ∀ v G' H', Same H H' → Same G G' → Same G' H' → (∀ b, G b = none → H b ≠ none → G' b = none) → RtAt K G' H' H v r → Q v H'
abbrev RC1 := Kd → List D → List D → (Rt → Kd → List D → Prop) → Prop
/-- a def whose first argument is owned -/
def spC (K : PySem.W.Frag) (R : RC1) : Sp := fun vs H Q _ => ∃ a rest cvs kd cds ds G, vs = .ref a :: rest ∧ Same G H ∧ G a = none ∧ CellAt H a cvs kd ∧ Reps K G cvs cds ∧ Reps K G rest ds ∧
  R kd cds ds fun r kd' cds' => ∀ v G' H' cvs', (∀ b o, b ≠ a → H b = some o → H' b = some o) → Same G G' → Same G' H' → (∀ b, G b = none → H b ≠ none → G' b = none) → CellAt H' a cvs' kd' → Reps K G' cvs' cds' → RtAt K G' H' H v r → Q v H'
def MonoP (R : RP) : Prop := ∀ ds p q, (∀ r, p r → q r) → R ds p → R ds q
def MonoC (R : RC1) : Prop := ∀ kd cds ds p q, (∀ r k c, p r k c → q r k c) → R kd cds ds p → R kd cds ds q
structure CaP (P : Program) (w : World) (K : PySem.W.Frag) (mg : Str → Option Value) (base : Heap) (x : Str) (k : Nat) (R : RP) : Prop where
  mono : MonoP R
  ex : ∃ f fd ps, mg x = some (.ref f) ∧ PySem.W.keepIn K (.ref f) = true ∧ Binds K fd ps [] ∧ FnOk P w K mg base CX0 k f fd ps (spP K R)
structure CaC (P : Program) (w : World) (K : PySem.W.Frag) (mg : Str → Option Value) (base : Heap) (x : Str) (k : Nat) (R : RC1) : Prop where
  mono : MonoC R
  ex : ∃ f fd ps, mg x = some (.ref f) ∧ PySem.W.keepIn K (.ref f) = true ∧ Binds K fd ps [] ∧ FnOk P w K mg base CX0 k f fd ps (spC K R)
/-- .. seen from a body -/
structure CbP (X : Cx) (x : Str) (k : Nat) (R : RP) : Prop where
  gl : Gl X x
  mono : MonoP R
  ex : ∃ f fd ps, X.mg x = some (.ref f) ∧ PySem.W.keepIn X.K (.ref f) = true ∧ Binds X.K fd ps [] ∧ FnOk X.prog X.w X.K X.mg X.base CX0 k f fd ps (spP X.K R)
structure CbC (X : Cx) (x : Str) (k : Nat) (R : RC1) : Prop where
  gl : Gl X x
  mono : MonoC R
  ex : ∃ f fd ps, X.mg x = some (.ref f) ∧ PySem.W.keepIn X.K (.ref f) = true ∧ Binds X.K fd ps [] ∧ FnOk X.prog X.w X.K X.mg X.base CX0 k f fd ps (spC X.K R)
theorem CaP.at {X : Cx} {P : Program} {w : World} {K : PySem.W.Frag} {mg : Str → Option Value} {base : Heap} {N : List Str} {sc : Scope} {k j : Nat} {x : Str} {R : RP} (c : CaP P w K mg base x j R) (h : XIs X P w K mg base N sc k)
    (h1 : sc.names.lookup x = some .globalImplicit) : CbP X x j R := by
  obtain ⟨e1, e2, e3, e4, e5, _⟩ := id h
  subst e1 e2 e3 e4 e5
  exact ⟨h.gl h1, c.mono, c.ex⟩
theorem CaC.at {X : Cx} {P : Program} {w : World} {K : PySem.W.Frag} {mg : Str → Option Value} {base : Heap} {N : List Str} {sc : Scope} {k j : Nat} {x : Str} {R : RC1} (c : CaC P w K mg base x j R) (h : XIs X P w K mg base N sc k)
    (h1 : sc.names.lookup x = some .globalImplicit) : CbC X x j R := by
  obtain ⟨e1, e2, e3, e4, e5, _⟩ := id h
  subst e1 e2 e3 e4 e5
  exact ⟨h.gl h1, c.mono, c.ex⟩
/-- what a body must end with -/
def RtE (post : Rt → Prop) : E → S → Prop
  | .d x, _ => post (.dat x)
  | .r k, s => ∃ kd es ds, nth s.ce k = some (.nd kd es) ∧ dsOf es = some ds ∧ s.ar ≤ k ∧ post (.new kd ds)
def entry (N : List Str) (ds : List E) (ce : List Cell) (ar : Nat) : S := ⟨ds.map some ++ List.replicate (N.length - ds.length) none, ce, ar⟩
section
variable {P : Program} {w : World} {K : PySem.W.Frag} {mg : Str → Option Value} {base : Heap} {x qual : Str} {st : Stmt} {f : Addr} {fd : FuncData} {N ps : List Str} {k : Nat}
theorem slots_entry {K : PySem.W.Frag} {G : Hp} {as : List Addr} {vs : List V} {es : List E} (h : VEs K G as vs es) (N : List Str) {i : Nat} {e : E} (q : (es.map some ++ List.replicate (N.length - es.length) none)[i]? = some (some e)) : ∃ v, (L2.start N vs)[i]? = some (some v) ∧ VE K G as v e := by
  unfold L2.start
  by_cases hi : i < es.length
  · rw [List.getElem?_append_left (by rw [List.length_map]; exact hi), List.getElem?_map] at q
    cases e1 : es[i]? with
    | none => rw [e1] at q; cases q
    | some e2 =>
      rw [e1] at q
      cases q
      obtain ⟨v, h1, h2⟩ := h.get' e1
      refine ⟨v, ?_, h2⟩
      rw [List.getElem?_append_left (by rw [List.length_map, Paired.length h]; exact hi), List.getElem?_map, h1]
      rfl
  · rw [List.getElem?_append_right (by rw [List.length_map]; omega), List.getElem?_replicate] at q
    split at q <;> cases q
theorem fn_P {R : RP} (F : Fun K x qual st f fd) (S : FnScope N ps (defScope st)) (hlen : ∀ ds post, R ds post → ds.length = ps.length)
    (body : ∀ (X : Cx) (F : Fr) (ds : List D) (post : Rt → Prop), XIs X P w K mg base N (defScope st) k → (∀ y, X.fn y = true) → X.H_0 = F.H0 → R ds post → JSs X F (defBody st) (entry N (ds.map .d) [] 0) { nx := fun _ => post (.dat .non), rt := RtE post }) :
    FnOk P w K mg base CX0 (k + 1) f fd ps (spP K R) := by
  refine F.ok S (fun vs H Q E h => ?_) fun cdv A outer s H vs Q Ex hr h => ?_
  · obtain ⟨G, ds, _, r, hR⟩ := h
    rw [r.length]; exact hlen ds _ hR
  · obtain ⟨G, ds, sg, r, hR⟩ := h
    refine ⟨_, pss_sem _ _, ?_⟩
    have ve : VEs K G [] vs (ds.map .d) := VEs.ofReps r
    refine body _ ⟨G, H, []⟩ ds _ ⟨rfl, rfl, rfl, rfl, rfl, rfl, rfl, rfl, S.nd, rfl, hr⟩ (fun _ => rfl) rfl hR [] G H _ _ ?_ ?_
    · refine ⟨sg, Same.refl _, fun _ h _ => h, fun _ _ h _ => h, rfl, List.prefix_refl _, List.nodup_nil, fun k a kd es h => by simp at h, fun a h => by simp at h, fun a h => by simp at h, fun k kd es h => ?_, fun i e h => slots_entry ve N h, ?_, rfl⟩
      · have h : ([] : List Cell)[k]? = some (.nd kd es) := h
        simp at h
      · show (((ds.map E.d).map some) ++ List.replicate (N.length - (ds.map E.d).length) none).length = (L2.start N vs).length
        unfold L2.start
        simp [r.length]
    · have fin : ∀ {as' : List Addr} {G' H' : Hp} {σ' : L2.St} {s' : DL.S}, Cz (cxOf CX0 P w K mg base N qual (defScope st) f cdv A outer s H Ex).nox ⟨G, H, []⟩ as' G' H' σ' s' → Same H H' := fun {as' G' H' σ' s'} c b o q => c.frame b o q (by simp)
      refine ⟨fun as' G' H' σ' s' c x q => q .non G' H' (fin c) c.base c.sub c.new .non, fun v as' G' H' σ' e' s' c x ve q => ?_, fun _ _ _ _ _ _ _ q => q.elim, fun _ _ _ _ _ _ _ q => q.elim⟩
      cases e' with
      | d y => exact q v G' H' (fin c) c.base c.sub c.new ve
      | r j =>
        obtain ⟨kd, es, ds', q1, q2, q3, q4⟩ := q
        rw [nth_eq] at q1
        obtain ⟨a, h1, h2⟩ := ve
        obtain ⟨a', ws, g1, g2, g3⟩ := c.cells j _ _ q1
        rw [h1] at g1
        cases g1
        rw [dsOf_eq q2] at g3
        exact q4 v G' H' (fin c) c.base c.sub c.new ⟨a, ws, h2, (c.fresh a (List.mem_of_getElem? h1)).resolve_left (by simp), c.own j a _ _ h1 q1, g2, g3.reps⟩
theorem fn_C {R : RC1} (F : Fun K x qual st f fd) (S : FnScope N ps (defScope st)) (hlen : ∀ kd cds ds post, R kd cds ds post → ds.length + 1 = ps.length)
    (body : ∀ (X : Cx) (F : Fr) (kd : Kd) (cds ds : List D) (post : Rt → Kd → List D → Prop), XIs X P w K mg base N (defScope st) k → (∀ y, X.fn y = true) → X.H_0 = F.H0 → R kd cds ds post → JSs X F (defBody st) (entry N (.r 0 :: ds.map .d) [.nd kd (cds.map .d)] 1)
      { nx := fun s => ∃ kd' es' cds', nth s.ce 0 = some (.nd kd' es') ∧ dsOf es' = some cds' ∧ post (.dat .non) kd' cds', rt := fun e s => ∃ kd' es' cds', nth s.ce 0 = some (.nd kd' es') ∧ dsOf es' = some cds' ∧ RtE (fun r => post r kd' cds') e s }) :
    FnOk P w K mg base CX0 (k + 1) f fd ps (spC K R) := by
  refine F.ok S (fun vs H Q E h => ?_) fun cdv A outer s H vs Q Ex hr h => ?_
  · obtain ⟨a, rest, cvs, kd, cds, ds, G, rfl, _, _, _, _, r, hR⟩ := h
    rw [List.length_cons, r.length]; exact hlen _ _ ds _ hR
  · obtain ⟨a, rest, cvs, kd, cds, ds, G, rfl, sg, ga, ca, rc, r, hR⟩ := h
    refine ⟨_, pss_sem _ _, ?_⟩
    have ve : VEs K G [a] (.ref a :: rest) (.r 0 :: ds.map .d) := .cons ⟨a, rfl, rfl⟩ (VEs.ofReps r)
    refine body _ ⟨G, H, [a]⟩ kd cds ds _ ⟨rfl, rfl, rfl, rfl, rfl, rfl, rfl, rfl, S.nd, rfl, hr⟩ (fun _ => rfl) rfl hR [a] G H _ _ ?_ ?_
    · refine ⟨sg, Same.refl _, fun _ h _ => h, fun _ _ h _ => h, rfl, List.prefix_refl _, by simp, fun k b kd es h h2 => ?_, fun b h => .inl h, fun b h => ?_, fun k kd' es h => ?_, fun i e h => slots_entry ve N h, ?_, rfl⟩
      · have hb : b = a := by
          have := List.mem_of_getElem? h
          simpa using this
        rw [hb]; exact ga
      · have hb : b = a := by simpa using h
        obtain ⟨o, ho⟩ := ca.some
        rw [hb, ho]
        exact fun z => by cases z
      · have h : ([Cell.nd kd (cds.map .d)])[k]? = some (.nd kd' es) := h
        cases k with
        | zero =>
          cases h
          exact ⟨a, cvs, rfl, ca, VEs.ofReps rc⟩
        | succ k => simp at h
      · show (((E.r 0 :: ds.map E.d).map some) ++ List.replicate (N.length - (E.r 0 :: ds.map E.d).length) none).length = (L2.start N (.ref a :: rest)).length
        unfold L2.start
        simp [r.length]
    · have fin : ∀ {as' : List Addr} {G' H' : Hp} {σ' : L2.St} {s' : DL.S}, Cz (cxOf CX0 P w K mg base N qual (defScope st) f cdv A outer s H Ex).nox ⟨G, H, [a]⟩ as' G' H' σ' s' → ∀ b o, b ≠ a → H b = some o → H' b = some o := fun {as' G' H' σ' s'} c b o hb q => c.frame b o q (by simpa using hb)
      have cell : ∀ {as' : List Addr} {G' H' : Hp} {σ' : L2.St} {s' : DL.S} {kd' : Kd} {es' : List E} {cds' : List D}, Cz (cxOf CX0 P w K mg base N qual (defScope st) f cdv A outer s H Ex).nox ⟨G, H, [a]⟩ as' G' H' σ' s' → nth s'.ce 0 = some (.nd kd' es') → dsOf es' = some cds' →
          ∃ cvs', CellAt H' a cvs' kd' ∧ Reps K G' cvs' cds' := fun {as' G' H' σ' s' kd' es' cds'} c q1 q2 => by
        rw [nth_eq] at q1
        obtain ⟨b, ws, g1, g2, g3⟩ := c.cells 0 _ _ q1
        have : as'[0]? = some a := pre_get c.pre (k := 0) (a := a) rfl
        rw [this] at g1
        cases g1
        rw [dsOf_eq q2] at g3
        exact ⟨ws, g2, g3.reps⟩
      refine ⟨fun as' G' H' σ' s' c x ⟨kd', es', cds', q1, q2, q⟩ => ?_, fun v as' G' H' σ' e' s' c x ve ⟨kd', es', cds', q1, q2, q⟩ => ?_, fun _ _ _ _ _ _ _ q => q.elim, fun _ _ _ _ _ _ _ q => q.elim⟩
      · obtain ⟨cvs', y1, y2⟩ := cell c q1 q2
        exact q .non G' H' cvs' (fin c) c.base c.sub c.new y1 y2 .non
      · obtain ⟨cvs', y1, y2⟩ := cell c q1 q2
        cases e' with
        | d y => exact q v G' H' cvs' (fin c) c.base c.sub c.new y1 y2 ve
        | r j =>
          obtain ⟨kd, es, ds', q1, q2, q3, q4⟩ := q
          rw [nth_eq] at q1
          obtain ⟨b, h1, h2⟩ := ve
          obtain ⟨b', ws, g1, g2, g3⟩ := c.cells j _ _ q1
          rw [h1] at g1
          cases g1
          rw [dsOf_eq q2] at g3
          refine q4 v G' H' cvs' (fin c) c.base c.sub c.new y1 y2 ⟨b, ws, h2, (c.fresh b (List.mem_of_getElem? h1)).resolve_left fun z => ?_, c.own j b _ _ h1 q1, g2, g3.reps⟩
          have hb : b = a := by simpa using z
          subst hb
          have w0 : as'[0]? = some b := pre_get c.pre (k := 0) (a := b) rfl
          obtain ⟨l1, e1⟩ := List.getElem?_eq_some_iff.mp h1
          obtain ⟨l2, e2⟩ := List.getElem?_eq_some_iff.mp w0
          have := (List.getElem_inj c.nd).mp (e1.trans e2.symm)
          have har := c.har
          have : s'.ar = 1 := har.symm
          omega
end
/-! ### calls -/
/-! immutable data -/
mutual
def D.imm : D → Bool
  | .nd .tup ds => D.imms ds
  | .nd .lst _ => false
  | .nd (.dct _) _ => false
  | .nd (.ins _ _) _ => false
  | .non => true | .bl _ => true | .int _ => true | .str _ => true
def D.imms : List D → Bool
  | [] => true
  | d :: ds => D.imm d && D.imms ds
end
def S.view (s : S) : E → Option D
  | .d x => some x
  | .r k => match nth s.ce k with
    | some (.nd .lst es) => (dsOf es).map (.nd .lst)
    | some (.nd (.dct ks) es) => (dsOf es).map (.nd (.dct ks))
    | _ => none
def S.views (s : S) : List E → Option (List D)
  | [] => some []
  | e :: es => match s.view e, s.views es with
    | some d, some ds => some (d :: ds)
    | _, _ => none
variable {X : Cx} {F : Fr} {s : S}
section
variable {e a b c : Expr} {es rest : List Expr} {Φ : E → S → Prop} {pos p p2 : Pos} {x : Str} {k B : Nat}
def RtΦ (Φ : E → S → Prop) (s : S) : Rt → Prop
  | .dat x => Φ (.d x) s
  | .new kd ds => Φ (.r s.ce.length) (s.push kd (ds.map .d))
theorem rtΦ_dat {d : D} (h : Φ (.d d) s) : RtΦ Φ s (.dat d) := h
theorem rtΦ_new {kd : Kd} {ds : List D} (h : Φ (.r s.ce.length) (s.push kd (ds.map .d))) : RtΦ Φ s (.new kd ds) := h
theorem rtE_d {post : Rt → Prop} {d : D} (h : post (.dat d)) : RtE post (.d d) s := h
theorem Cz.call {as : List Addr} {G H G' H' : Hp} {σ : L2.St} (c : Cz X F as G H σ s) (h1 : Same H H') (h2 : Same G G') (h3 : Same G' H') (h4 : ∀ b, G b = none → H b ≠ none → G' b = none) : Cz X F as G' H' σ s := by
  refine ⟨h3, c.base.trans h2, fun b q1 q2 => ?_, fun b o q1 q2 => h1 b o (c.frame b o q1 q2), c.len, c.pre, c.nd, fun k a kd es q1 q2 => ?_, c.fresh, fun a ha z => ?_, fun k kd es q => ?_, fun i e q => ?_, c.slen, c.har⟩
  · refine h4 b (c.new b q1 q2) fun z => ?_
    cases q : F.H0 b with
    | none => exact q2 q
    | some o =>
      by_cases hA : b ∈ F.A0
      · exact c.there b (c.pre.subset hA) z
      · have := c.frame b o q hA
        rw [z] at this; cases this
  · exact h4 a (c.own k a kd es q1 q2) (c.there a (List.mem_of_getElem? q1))
  · cases q : H a with
    | none => exact c.there a ha q
    | some o => rw [h1 a o q] at z; cases z
  · obtain ⟨a, vs, w1, w2, w3⟩ := c.cells k kd es q
    exact ⟨a, vs, w1, w2.keep fun o q => h1 a o q, w3.mono (List.prefix_refl _) h2⟩
  · obtain ⟨v, w1, w2⟩ := c.slots i e q
    exact ⟨v, w1, w2.mono (List.prefix_refl _) h2⟩
/-- a new owned object that a callee has made -/
theorem Cz.grow {as : List Addr} {G H : Hp} {σ : L2.St} (c : Cz X F as G H σ s) {a : Addr} {vs : List V} {kd : Kd} {es : List E} (h1 : G a = none) (h2 : a ∉ as) (h0 : F.H0 a = none) (h3 : CellAt H a vs kd) (h4 : VEs X.K G as vs es) : Cz X F (as ++ [a]) G H σ (s.push kd es) := by
  have pr : as <+: as ++ [a] := pre_snoc
  refine ⟨c.sub, c.base, c.new, c.frame, ?_, c.pre.trans pr, ?_, fun k b kd' es' q1 q2 => ?_, fun b hb => ?_, fun b hb => ?_, fun k kd' es' q => ?_, fun i e q => ?_, c.slen, c.har⟩
  · show (as ++ [a]).length = (s.ce ++ [Cell.nd kd es]).length
    rw [List.length_append, List.length_append, c.len]; rfl
  · rw [List.nodup_append]
    exact ⟨c.nd, by simp, fun b hb d hd => by
      have : d = a := by simpa using hd
      subst this
      exact fun z => h2 (z ▸ hb)⟩
  · have q2 : (s.ce ++ [Cell.nd kd es])[k]? = some (.nd kd' es') := q2
    by_cases hk : k < as.length
    · rw [List.getElem?_append_left hk] at q1
      rw [List.getElem?_append_left (by rw [← c.len]; exact hk)] at q2
      exact c.own k b _ _ q1 q2
    · rw [List.getElem?_append_right (by omega)] at q1
      have : b = a := by simpa using List.mem_of_getElem? q1
      rw [this]; exact h1
  · rcases List.mem_append.mp hb with hb | hb
    · exact c.fresh b hb
    · have : b = a := by simpa using hb
      rw [this]; exact .inr h0
  · rcases List.mem_append.mp hb with hb | hb
    · exact c.there b hb
    · have : b = a := by simpa using hb
      rw [this]
      obtain ⟨o, ho⟩ := h3.some
      rw [ho]; exact fun z => by cases z
  · have q : (s.ce ++ [Cell.nd kd es])[k]? = some (.nd kd' es') := q
    by_cases hk : k < as.length
    · rw [List.getElem?_append_left (by rw [← c.len]; exact hk)] at q
      obtain ⟨b, ws, w1, w2, w3⟩ := c.cells k _ _ q
      exact ⟨b, ws, pre_get pr w1, w2, w3.mono pr (Same.refl _)⟩
    · rw [List.getElem?_append_right (by rw [← c.len]; omega)] at q
      have l := (List.getElem?_eq_some_iff.mp q).1
      have hk0 : k - s.ce.length = 0 := by simp at l; exact l
      rw [hk0] at q
      cases q
      have hke : k = as.length := by have := c.len; omega
      exact ⟨a, vs, by rw [hke, List.getElem?_append_right (Nat.le_refl _)]; simp, h3, h4.mono pr (Same.refl _)⟩
  · obtain ⟨v, w1, w2⟩ := c.slots i e q
    exact ⟨v, w1, w2.mono pr (Same.refl _)⟩
theorem je_callP {R : RP} (cb : CbP X x k R) (bx : Bx X B) (hB : k ≤ B)
    (h : JA X F (a :: es) s fun vs s1 => ∃ ds, dsOf vs = some ds ∧ R ds (RtΦ Φ s1)) (hdb : (x == ("__debug__" : Str)) = false := by decide) (he : starEach (a :: es) X.env = (false, eval a X.env) :: starEach es X.env := by rfl)
    (hpl : (backTo pos (starEach es X.env)).any (·.1) = false := by rfl) : JE X F (.Call (.Name x p) (a :: es) [] pos) s Φ := by
  obtain ⟨f, fd, ps, h1, h2, h3, h4⟩ := cb.ex
  refine je_of (pe_call h4 (bx.room.mono hB) cb.gl h1 h2 h3 .nil pass0 (pa_sem X _) hdb he hpl) fun as G H σ Q c kk => h as G H σ _ c fun vs as1 G1 H1 es1 s1 c1 x1 ves ⟨ds, e1, hR⟩ => ?_
  rw [List.append_nil]
  rw [dsOf_eq e1] at ves
  refine ⟨G1, ds, c1.sub, ves.reps, cb.mono ds _ _ (fun r hr v G' H' q1 q2 q3 q4 q5 => ?_) hR⟩
  have c2 := c1.call q1 q2 q3 q4
  have x2 : Ext as1 as1 G1 G' := ⟨List.prefix_refl _, q2⟩
  cases r with
  | dat y => exact kk v as1 G' H' (.d y) s1 c2 (x1.trans x2) q5 hr
  | new kd ds' =>
    obtain ⟨b, ws, rfl, w1, w2, w3, w4⟩ := q5
    have c3 := c2.grow (kd := kd) (es := ds'.map .d) w2 (c1.notin w1) (c1.h0none w1) w3 (VEs.ofReps w4)
    exact kk _ _ G' H' (.r s1.ce.length) _ c3 ((x1.trans x2).trans ⟨pre_snoc, Same.refl _⟩) ⟨b, by rw [← c1.len, List.getElem?_append_right (Nat.le_refl _)]; simp, rfl⟩ hr
theorem je_callC {R : RC1} (cb : CbC X x k R) (bx : Bx X B) (hB : k ≤ B)
    (h : JA X F (a :: es) s fun vs s1 => ∃ j rest ds es0 cds, vs = .r j :: rest ∧ dsOf rest = some ds ∧ nth s1.ce j = some (.nd .lst es0) ∧ dsOf es0 = some cds ∧ R .lst cds ds fun r kd' cds' => RtΦ Φ (s1.put j kd' (cds'.map .d)) r) (hdb : (x == ("__debug__" : Str)) = false := by decide)
    (he : starEach (a :: es) X.env = (false, eval a X.env) :: starEach es X.env := by rfl) (hpl : (backTo pos (starEach es X.env)).any (·.1) = false := by rfl) : JE X F (.Call (.Name x p) (a :: es) [] pos) s Φ := by
  obtain ⟨f, fd, ps, h1, h2, h3, h4⟩ := cb.ex
  refine je_of (pe_call h4 (bx.room.mono hB) cb.gl h1 h2 h3 .nil pass0 (pa_sem X _) hdb he hpl) fun as G H σ Q c kk => h as G H σ _ c fun vs as1 G1 H1 es1 s1 c1 x1 ves ⟨j, rest, ds, es0, cds, e0, e1, e2, e3, hR⟩ => ?_
  rw [List.append_nil]
  subst e0
  rw [dsOf_eq e1] at ves
  rw [nth_eq] at e2
  cases ves with
  | cons v1 v2 =>
    obtain ⟨a, ha, rfl⟩ := v1
    obtain ⟨a', cvs, g1, g2, g3⟩ := c1.cells j _ _ e2
    rw [ha] at g1
    cases g1
    rw [dsOf_eq e3] at g3
    have ga := c1.own j a _ _ ha e2
    refine ⟨a, _, cvs, .lst, cds, ds, G1, rfl, c1.sub, ga, g2, g3.reps, (VEs.reps v2), cb.mono _ _ _ _ _ (fun r kd' cds' hr v G' H' cvs' q1 q2 q3 q4 q5 q6 q7 => ?_) hR⟩
    -- the state behind: H' is H'' with a written, H'' what keeps all
    have am := List.mem_of_getElem? ha
    have gn' : G' a = none := q4 a ga (c1.there a am)
    obtain ⟨o', ho'⟩ := q5.some
    have inj : ∀ {i : Nat} {b : Addr}, as1[i]? = some b → b = a → i = j := fun {i b} q e => by
      subst e
      obtain ⟨l1, e1⟩ := List.getElem?_eq_some_iff.mp q
      obtain ⟨l2, e2⟩ := List.getElem?_eq_some_iff.mp ha
      exact (List.getElem_inj c1.nd).mp (e1.trans e2.symm)
    have g2' : H1 a = some (.lst cvs) := g2
    have hsame : Same H1 (upd H' a (.lst cvs)) := fun b o q => by
      by_cases hb : b = a
      · subst hb; rw [upd_same, ← g2', q]
      · rw [upd_ne hb]; exact q1 b o hb q
    have c2 : Cz X F as1 G' (upd H' a (.lst cvs)) σ s1 := c1.call hsame q2 (fun b o q => by
      have hb : b ≠ a := fun z => by rw [z, gn'] at q; cases q
      rw [upd_ne hb]; exact q3 b o q) q4
    have eH : upd (upd H' a (.lst cvs)) a o' = H' := by
      rw [upd_upd]
      funext b
      unfold upd
      by_cases hb : b = a
      · rw [if_pos hb, hb, ho']
      · rw [if_neg hb]
    have c3 : Cz X F as1 G' H' σ (s1.put j kd' (cds'.map .d)) := by
      have := c2.put (kd := kd') (es := cds'.map .d) (vs := cvs') (o := o') e2 ha (by rw [eH]; exact q5) (VEs.ofReps q6)
      rw [eH] at this
      exact this
    have x2 : Ext as1 as1 G1 G' := ⟨List.prefix_refl _, q2⟩
    cases r with
    | dat y => exact kk v as1 G' H' (.d y) _ c3 (x1.trans x2) q7 hr
    | new kd2 ds' =>
      obtain ⟨b, ws, rfl, w1, w2, w3, w4⟩ := q7
      have c4 := c3.grow (kd := kd2) (es := ds'.map .d) w2 (c1.notin w1) (c1.h0none w1) w3 (VEs.ofReps w4)
      refine kk _ _ G' H' (.r (s1.put j kd' (cds'.map .d)).ce.length) _ c4 ((x1.trans x2).trans ⟨pre_snoc, Same.refl _⟩) ⟨b, ?_, rfl⟩ hr
      have hl : (s1.put j kd' (cds'.map .d)).ce.length = as1.length := by
        show (setN s1.ce j _).length = _
        rw [setN_eq, List.length_set, c1.len]
      rw [hl, List.getElem?_append_right (Nat.le_refl _)]
      simp
/-! borrowed cells -/
theorem imm_keep {K : PySem.W.Frag} {G G2 : Hp} (ht : ∀ a vs, Rd G a (.tup vs) → Rd G2 a (.tup vs)) : (∀ (d : D) (v : V), Rep K G v d → d.imm = true → Rep K G2 v d) := by
  have main : ∀ n : Nat, (∀ (d : D) (v : V), sizeOf d < n → Rep K G v d → d.imm = true → Rep K G2 v d) ∧ (∀ (ds : List D) (vs : List V), sizeOf ds < n → Reps K G vs ds → D.imms ds = true → Reps K G2 vs ds) := by
    intro n
    induction n with
    | zero => exact ⟨fun _ _ h => absurd h (Nat.not_lt_zero _), fun _ _ h => absurd h (Nat.not_lt_zero _)⟩
    | succ n ih =>
      refine ⟨fun d v hs h hi => ?_, fun ds vs hs h hi => ?_⟩
      · cases h with
        | non => exact .non
        | bl b => exact .bl b
        | int i => exact .int i
        | str x => exact .str x
        | @nd a ws k es nd r =>
          cases k with
          | tup =>
            have hi' : D.imms es = true := by simpa [D.imm] using hi
            refine .nd ?_ (ih.2 es ws (by simp at hs; omega) r hi')
            rcases nd with h | h
            · exact .inl (ht _ _ h)
            · exact .inr h
          | _ => simp [D.imm] at hi
      · cases h with
        | nil => exact .nil
        | @cons v d ws es h t =>
          simp [D.imms] at hi
          exact .cons (ih.1 d v (by simp at hs; omega) h hi.1) (ih.2 es ws (by simp at hs; omega) t hi.2)
  exact fun d v h hi => (main (sizeOf d + 1)).1 d v (Nat.lt_succ_self _) h hi
theorem imm_keeps {K : PySem.W.Frag} {G G2 : Hp} (ht : ∀ a vs, Rd G a (.tup vs) → Rd G2 a (.tup vs)) : ∀ (ds : List D) (vs : List V), Reps K G vs ds → D.imms ds = true → Reps K G2 vs ds
  | _, _, .nil, _ => .nil
  | _, _, .cons h t, hi => by
    simp [D.imms] at hi
    exact .cons (imm_keep ht _ _ h hi.1) (imm_keeps ht _ _ t hi.2)
def Rt.imm : Rt → Bool
  | .dat x => x.imm
  | .new _ ds => D.imms ds
/-- the heap in which the owned cells are read, not written -/
def Alive (s : S) (as : List Addr) (b : Addr) : Prop := ∃ (k : Nat) (kd : Kd) (es : List E), as[k]? = some b ∧ s.ce[k]? = some (.nd kd es)
open Classical in
noncomputable def lend (s : S) (as : List Addr) (G H : Hp) : Hp := fun b => match G b with
  | some o => some o
  | none => if Alive s as b then H b else none
theorem lend_sub {as : List Addr} {G H : Hp} : Same G (lend s as G H) := fun b o h => by unfold lend; rw [h]
theorem lend_yes {as : List Addr} {G H : Hp} {b : Addr} (h : G b = none) (a : Alive s as b) : lend s as G H b = H b := by unfold lend; rw [h]; exact if_pos a
theorem lend_no {as : List Addr} {G H : Hp} {b : Addr} (h : G b = none) (a : ¬ Alive s as b) : lend s as G H b = none := by unfold lend; rw [h]; exact if_neg a
theorem lend_in {as : List Addr} {G H : Hp} (e : Same G H) : Same (lend s as G H) H := fun b o h => by
  cases q : G b with
  | some u => rw [lend_sub b u q] at h; rw [e b u q]; exact h
  | none =>
    by_cases a : Alive s as b
    · rw [lend_yes q a] at h; exact h
    · rw [lend_no q a] at h; cases h
theorem Cz.view {as : List Addr} {G H : Hp} {σ : L2.St} (c : Cz X F as G H σ s) {v : V} {e : E} {d : D} (ve : VE X.K G as v e) (h : s.view e = some d) : Rep X.K (lend s as G H) v d := by
  cases e with
  | d x => cases h; exact Rep.mono lend_sub ve
  | r k =>
    obtain ⟨a, h1, rfl⟩ := ve
    have h : (match nth s.ce k with
      | some (.nd .lst es) => (dsOf es).map (.nd .lst)
      | some (.nd (.dct ks) es) => (dsOf es).map (.nd (.dct ks))
      | _ => none) = some d := h
    rw [nth_eq] at h
    have key : ∀ {kd : Kd} {es : List E} {ds : List D}, s.ce[k]? = some (.nd kd es) → dsOf es = some ds → Rep X.K (lend s as G H) (.ref a) (.nd kd ds) := fun {kd es ds} q1 q2 => by
      obtain ⟨b, vs, g1, g2, g3⟩ := c.cells k _ _ q1
      rw [h1] at g1
      cases g1
      rw [dsOf_eq q2] at g3
      have la : ∀ o, H a = some o → lend s as G H a = some o := fun o q => by
        rw [lend_yes (c.own k a _ _ h1 q1) ⟨k, _, _, h1, q1⟩]
        exact q
      have : CellAt (lend s as G H) a vs kd := g2.keep la
      exact .nd this.node (g3.reps.mono lend_sub)
    cases hc : s.ce[k]? with
    | none => rw [hc] at h; cases h
    | some cl =>
      rw [hc] at h
      cases cl with
      | gone => cases h
      | nd kd es =>
        cases kd with
        | lst =>
          cases q : dsOf es with
          | none => simp [q] at h
          | some ds => simp [q] at h; subst h; exact key hc q
        | dct ks =>
          cases q : dsOf es with
          | none => simp [q] at h
          | some ds => simp [q] at h; subst h; exact key hc q
        | tup => cases h
        | ins C fs => cases h
theorem Cz.views {as : List Addr} {G H : Hp} {σ : L2.St} (c : Cz X F as G H σ s) : ∀ {vs : List V} {es : List E} {ds : List D}, VEs X.K G as vs es → s.views es = some ds → Reps X.K (lend s as G H) vs ds
  | _, _, ds, .nil, h => by cases h; exact .nil
  | _, e :: es, ds, .cons h t, q => by
    unfold S.views at q
    cases q1 : s.view e with
    | none => rw [q1] at q; simp at q
    | some d =>
      cases q2 : s.views es with
      | none => rw [q1, q2] at q; simp at q
      | some ds' =>
        rw [q1, q2] at q
        simp at q
        subst q
        exact .cons (c.view h q1) (c.views t q2)
theorem je_callB {R : RP} (cb : CbP X x k R) (bx : Bx X B) (hB : k ≤ B)
    (h : JA X F (a :: es) s fun vs s1 => ∃ ds, s1.views vs = some ds ∧ R ds fun r => r.imm = true ∧ RtΦ Φ s1 r) (hdb : (x == ("__debug__" : Str)) = false := by decide) (he : starEach (a :: es) X.env = (false, eval a X.env) :: starEach es X.env := by rfl)
    (hpl : (backTo pos (starEach es X.env)).any (·.1) = false := by rfl) : JE X F (.Call (.Name x p) (a :: es) [] pos) s Φ := by
  obtain ⟨f, fd, ps, h1, h2, h3, h4⟩ := cb.ex
  refine je_of (pe_call h4 (bx.room.mono hB) cb.gl h1 h2 h3 .nil pass0 (pa_sem X _) hdb he hpl) fun as G H σ Q c kk => h as G H σ _ c fun vs as1 G1 H1 es1 s1 c1 x1 ves ⟨ds, e1, hR⟩ => ?_
  rw [List.append_nil]
  refine ⟨lend s1 as1 G1 H1, ds, lend_in c1.sub, c1.views ves e1, cb.mono ds _ _ (fun r ⟨hi, hr⟩ v G' H' q1 q2 q3 q4 q5 => ?_) hR⟩
  -- what is frozen behind: G' without the owned
  obtain ⟨G2, hG2, hG3⟩ : ∃ G2 : Hp, (∀ b, Alive s1 as1 b → G2 b = none) ∧ ∀ b, ¬ Alive s1 as1 b → G2 b = G' b := by
    classical
    exact ⟨fun b => if Alive s1 as1 b then none else G' b, fun b h => if_pos h, fun b h => if_neg h⟩
  have ga : ∀ {b : Addr}, Alive s1 as1 b → G1 b = none := fun {b} ⟨k, kd, es, w1, w2⟩ => c1.own k b _ _ w1 w2
  have s1' : Same G1 G2 := fun b o q => by
    rw [hG3 b (fun z => by rw [ga z] at q; cases q)]
    exact q2 b o (lend_sub b o q)
  have s2' : Same G2 H' := fun b o q => by
    by_cases hb : Alive s1 as1 b
    · rw [hG2 b hb] at q; cases q
    · rw [hG3 b hb] at q; exact q3 b o q
  have s4' : ∀ b, G1 b = none → H1 b ≠ none → G2 b = none := fun b w1 w2 => by
    by_cases hb : Alive s1 as1 b
    · exact hG2 b hb
    · rw [hG3 b hb]
      exact q4 b (lend_no w1 hb) w2
  have c2 := c1.call q1 s1' s2' s4'
  have x2 : Ext as1 as1 G1 G2 := ⟨List.prefix_refl _, s1'⟩
  -- a tuple is no owned cell
  have tups : ∀ a vs, Rd G' a (.tup vs) → Rd G2 a (.tup vs) := fun b ws hb => by
    have nb : ¬ Alive s1 as1 b := fun z => by
      have w0 := ga z
      obtain ⟨j, kd, es, hj, hcl⟩ := z
      obtain ⟨b', us, g1, g2, g3⟩ := c1.cells j _ _ hcl
      rw [hj] at g1
      cases g1
      obtain ⟨o, ho⟩ := g2.some
      have hG' : G' b = some o := q2 b o (by rw [lend_yes w0 ⟨j, kd, es, hj, hcl⟩]; exact ho)
      have g2' : CellAt G' b us kd := g2.keep fun u q => by rw [ho] at q; cases q; exact hG'
      rcases hb with hb | ⟨oo, hb⟩
      · cases kd with
        | tup => exact g2'
        | lst => have : G' b = some (.lst us) := g2'; rw [hb] at this; cases this
        | dct ks => obtain ⟨_, _, _, this⟩ := g2'; rw [hb] at this; cases this
        | ins C fs => obtain ⟨_, _, this⟩ := g2'; rw [hb] at this; cases this
      · cases kd with
        | tup => exact g2'
        | lst => have : G' b = some (.lst us) := g2'; rw [hb] at this; cases this
        | dct ks => obtain ⟨_, _, _, this⟩ := g2'; rw [hb] at this; cases this
        | ins C fs => obtain ⟨_, _, this⟩ := g2'; rw [hb] at this; cases this
    rcases hb with hb | ⟨oo, hb⟩
    · exact .inl (by rw [hG3 b nb]; exact hb)
    · exact .inr ⟨oo, by rw [hG3 b nb]; exact hb⟩
  cases r with
  | dat y => exact kk v as1 G2 H' (.d y) s1 c2 (x1.trans x2) (imm_keep tups _ _ q5 hi) hr
  | new kd ds' =>
    obtain ⟨b, ws, rfl, w1, w2, w3, w4⟩ := q5
    have gb : G2 b = none := by
      by_cases hb : Alive s1 as1 b
      · exact hG2 b hb
      · rw [hG3 b hb]; exact w2
    have c3 := c2.grow (kd := kd) (es := ds'.map .d) gb (c1.notin w1) (c1.h0none w1) w3 (VEs.ofReps (imm_keeps tups _ _ w4 hi))
    exact kk _ _ G2 H' (.r s1.ce.length) _ c3 ((x1.trans x2).trans ⟨pre_snoc, Same.refl _⟩) ⟨b, by rw [← c1.len, List.getElem?_append_right (Nat.le_refl _)]; simp, rfl⟩ hr
end
end DL
namespace DL
open PySem PySem.Spec PyProof.Rows L2
variable {X : Cx} {F : Fr} {s : S}
/-! ### what is walked -/
def semI (X : Cx) (tg iter : Expr) : TI := fun σ H R => ∀ pins st, Inv X pins σ H st → wpAny (model X.prog X.w) X.A (eval iter X.env) (fun v s1 => wpAny (model X.prog X.w) X.A (pyIter v) (PIE X pins σ tg R) X.xe s1) X.xe st
theorem pi_sem (X : Cx) (tg iter : Expr) : PI X tg iter (semI X tg iter) := ⟨fun pins s σ H R I h => h pins s I⟩
theorem PI.sem {X : Cx} {tg iter : Expr} {t : TI} (h : PI X tg iter t) {σ : L2.St} {H : Hp} {R : It → Hp → Prop} (q : t σ H R) : semI X tg iter σ H R := fun pins s I => h.run pins s σ H R I q
/-- n turns, at the i-th a thing of it i -/
structure ItOk (X : Cx) (F : Fr) (J : It) (n : Nat) (it : Nat → E → Prop) (as : List Addr) (G : Hp) : Prop where
  stop : ∀ as' G' H' σ' s', Cz X F as' G' H' σ' s' → Same G G' → J.stop n H'
  go : ∀ i as' G' H' σ' s', i < n → Cz X F as' G' H' σ' s' → Same G G' → J.go i H'
  yld : ∀ i as' G' H' σ' s' x H2, i < n → Cz X F as' G' H' σ' s' → Same G G' → J.yld i H' x H2 → ∃ G2 e, Cz X F as' G2 H2 σ' s' ∧ (Same G' G2 ∧ ∀ b, H' b ≠ none → G' b = none → G2 b = none) ∧ VE X.K G2 as' x e ∧ it i e
  keep : ∀ i as' G' H' σ' s' x H2, i < n → Cz X F as' G' H' σ' s' → Same G G' → J.yld i H' x H2 → Same H' H2
def JI (X : Cx) (F : Fr) (tg iter : Expr) (s : S) (Θ : Nat → (Nat → E → Prop) → S → Prop) : Prop := ∀ as G H σ (R : It → Hp → Prop), Cz X F as G H σ s →
  (∀ J as1 G1 H1 s1 n it, Cz X F as1 G1 H1 σ s1 → Ext as as1 G G1 → ItOk X F J n it as1 G1 → Θ n it s1 → R J H1) → semI X tg iter σ H R
/-- a whole frozen list, by its items -/
def itL (ds : List D) : Nat → E → Prop := fun i e => ∃ d, ds[i]? = some d ∧ e = .d d
section
variable {e a b c tg iter : Expr} {es rest : List Expr} {body : List Stmt} {P : Po} {pos p : Pos} {x : Str} {k B : Nat} {Θ : Nat → (Nat → E → Prop) → S → Prop}
theorem ji_lst (h : JE X F iter s fun e s1 => ∃ ds, e = .d (.nd .lst ds) ∧ Θ ds.length (itL ds) s1) : JI X F tg iter s Θ := fun as G H σ R c k =>
  PI.sem (pi_list (pe_sem X iter)) (h as G H σ _ c fun v as1 G1 H1 e1 s1 c1 x1 ve ⟨ds, e2, q⟩ => by
    subst e2
    cases ve with
    | @nd a vs _ _ n r =>
      have n : SqL X.K G1 a vs := n
      refine ⟨a, rfl, ⟨vs, (show NodeAt X.K G1 a vs .lst from n).mono c1.sub⟩, k (Itl X.K a) as1 G1 H1 s1 ds.length (itL ds) c1 x1 ?_ q⟩
      have at_ : ∀ {as' : List Addr} {G' H' : Hp} {σ' : L2.St} {s' : S}, Cz X F as' G' H' σ' s' → Same G1 G' → SqL X.K H' a vs := fun c' x => ((show NodeAt X.K G1 a vs .lst from n).mono x).mono c'.sub
      refine ⟨fun as' G' H' σ' s' c' x => ⟨vs, at_ c' x, by rw [r.length]; exact Nat.le_refl _⟩, fun i as' G' H' σ' s' hi c' x => ⟨vs, vs[i]'(by rw [r.length]; exact hi), at_ c' x, List.getElem?_eq_getElem _⟩, fun i as' G' H' σ' s' y H2 hi c' x q => ?_, fun i as' G' H' σ' s' y H2 hi c' x q => (by obtain ⟨rfl, _⟩ := q; exact Same.refl _)⟩
      obtain ⟨rfl, q⟩ := q
      obtain ⟨d, h1, h2⟩ := r.get' (q vs (at_ c' x))
      exact ⟨G', .d d, c', ⟨Same.refl _, fun _ _ h => h⟩, Rep.mono x h2, d, h1, rfl⟩)
theorem ji_tup (h : JE X F iter s fun e s1 => ∃ ds, e = .d (.nd .tup ds) ∧ Θ ds.length (itL ds) s1) : JI X F tg iter s Θ := fun as G H σ R c k =>
  PI.sem (pi_tup (pe_sem X iter)) (h as G H σ _ c fun v as1 G1 H1 e1 s1 c1 x1 ve ⟨ds, e2, q⟩ => by
    subst e2
    cases ve with
    | @nd a vs _ _ n r =>
      have n : SqT X.K G1 a vs := n
      refine ⟨a, rfl, ⟨vs, (show NodeAt X.K G1 a vs .tup from n).mono c1.sub⟩, k (Itt X.K a) as1 G1 H1 s1 ds.length (itL ds) c1 x1 ?_ q⟩
      have at_ : ∀ {as' : List Addr} {G' H' : Hp} {σ' : L2.St} {s' : S}, Cz X F as' G' H' σ' s' → Same G1 G' → SqT X.K H' a vs := fun c' x => ((show NodeAt X.K G1 a vs .tup from n).mono x).mono c'.sub
      refine ⟨fun as' G' H' σ' s' c' x => ⟨vs, at_ c' x, by rw [r.length]; exact Nat.le_refl _⟩, fun i as' G' H' σ' s' hi c' x => ⟨vs, vs[i]'(by rw [r.length]; exact hi), at_ c' x, List.getElem?_eq_getElem _⟩, fun i as' G' H' σ' s' y H2 hi c' x q => ?_, fun i as' G' H' σ' s' y H2 hi c' x q => (by obtain ⟨rfl, _⟩ := q; exact Same.refl _)⟩
      obtain ⟨rfl, q⟩ := q
      obtain ⟨d, h1, h2⟩ := r.get' (q vs (at_ c' x))
      exact ⟨G', .d d, c', ⟨Same.refl _, fun _ _ h => h⟩, Rep.mono x h2, d, h1, rfl⟩)
/-- a frozen dict's keys -/
def kD : Key → D
  | .inl i => .int i
  | .inr x => .str x
theorem rep_kD {K : PySem.W.Frag} {G : Hp} : ∀ (k : Key), Rep K G (kV k) (kD k)
  | .inl i => .int i
  | .inr x => .str x
theorem ji_keys (h : JE X F iter s fun e s1 => ∃ ks ds, e = .d (.nd (.dct ks) ds) ∧ Θ ks.length (itL (ks.map kD)) s1) : JI X F tg iter s Θ := fun as G H σ R c k =>
  PI.sem (pi_keys (pe_sem X iter)) (h as G H σ _ c fun v as1 G1 H1 e1 s1 c1 x1 ve ⟨ks, ds, e2, q⟩ => by
    subst e2
    cases ve with
    | @nd a vs _ _ n r =>
      obtain ⟨n1, n2, od, n3⟩ := n
      have hl : (ks.zip vs).length = ks.length := by rw [List.length_zip, n1, Nat.min_self]
      refine ⟨a, od, rfl, .inl ⟨ks.zip vs, c1.sub _ _ n3, k (Itk a od (ks.zip vs)) as1 G1 H1 s1 ks.length _ c1 x1 ?_ q⟩⟩
      have at_ : ∀ {as' : List Addr} {G' H' : Hp} {σ' : L2.St} {s' : S}, Cz X F as' G' H' σ' s' → Same G1 G' → H' a = some (.frz od (.dK (ks.zip vs))) := fun c' x => c'.sub _ _ (x _ _ n3)
      refine ⟨fun as' G' H' σ' s' c' x => ⟨at_ c' x, by rw [hl]; exact Nat.le_refl _⟩, fun i as' G' H' σ' s' hi c' x => ⟨at_ c' x, by rw [hl]; exact hi⟩, fun i as' G' H' σ' s' y H2 hi c' x q => ?_, fun i as' G' H' σ' s' y H2 hi c' x q => (by obtain ⟨rfl, _⟩ := q; exact Same.refl _)⟩
      obtain ⟨rfl, kk, v, q1, rfl⟩ := q
      refine ⟨G', .d (kD kk), c', ⟨Same.refl _, fun _ _ h => h⟩, rep_kD kk, kD kk, ?_, rfl⟩
      rw [List.getElem?_map, (List.getElem?_zip_eq_some.mp q1).1]
      rfl)
/-- range -/
def itR (lo : Int) : Nat → E → Prop := fun i e => e = .d (.int (lo + i))
theorem itok_range {lo : Int} {n : Nat} {as : List Addr} {G : Hp} : ItOk X F (Itr lo n) n (itR lo) as G :=
  ⟨fun _ _ _ _ _ _ _ => Nat.le_refl _, fun i _ _ _ _ _ hi _ _ => hi, fun i as' G' H' σ' s' x H2 hi c x1 ⟨q1, q2⟩ => ⟨G', .d (.int (lo + i)), by rw [q1]; exact c, ⟨Same.refl _, fun _ _ h => h⟩, by rw [q2]; exact .int _, rfl⟩, fun i as' G' H' σ' s' x H2 hi c x1 ⟨q1, q2⟩ => by rw [q1]; exact Same.refl _⟩
theorem ji_range1 (g : GlB X "range") (h : JE X F a s fun e s1 => ∃ j : Int, e = .d (.int j) ∧ (-(2 ^ 62) ≤ j ∧ j < 2 ^ 62) ∧ Θ j.toNat (itR 0) s1) (ns : NoStar a := by intro _ _; rfl) : JI X F tg (.Call (.Name "range" p) [a] [] pos) s Θ := fun as G H σ R c k =>
  PI.sem (pi_range1 g.gl g.mg (pa_cons (pe_sem X a) pa_nil (ns _ _)) (hs := by rw [ns]; rfl)) (h as G H σ _ c fun v as1 G1 H1 e1 s1 c1 x1 ve ⟨j, e2, ⟨h1, h2⟩, q⟩ => by
    subst e2
    cases ve
    exact ⟨j, rfl, h1, h2, k _ as1 G1 H1 s1 _ _ c1 x1 itok_range q⟩)
theorem ji_range2 (g : GlB X "range") (h : JE X F a s fun e s1 => JE X F b s1 fun e2 s2 => ∃ i j : Int, e = .d (.int i) ∧ e2 = .d (.int j) ∧ (-(2 ^ 62) ≤ i ∧ i < 2 ^ 62 ∧ -(2 ^ 62) ≤ j ∧ j < 2 ^ 62) ∧ Θ (j - i).toNat (itR i) s2) (ns : NoStar a := by intro _ _; rfl) (ns2 : NoStar b := by intro _ _; rfl) :
    JI X F tg (.Call (.Name "range" p) [a, b] [] pos) s Θ := fun as G H σ R c k =>
  PI.sem (pi_range2 g.gl g.mg (pa_cons (pe_sem X a) (pa_cons (pe_sem X b) pa_nil (ns2 _ _)) (ns _ _)) (hs := by rw [ns, ns2]; rfl) (hs2 := by rw [ns2]; rfl)) (h as G H σ _ c fun v as1 G1 H1 e1 s1 c1 x1 ve h1 => h1 as1 G1 H1 σ _ c1 fun v2 as2 G2 H2 e2 s2 c2 x2 ve2 ⟨i, j, q1, q2, ⟨b1, b2, b3, b4⟩, q⟩ => by
    subst q1 q2
    cases ve
    cases ve2
    exact ⟨i, j, rfl, ⟨b1, b2, b3, b4⟩, k _ as2 G2 H2 s2 _ _ c2 (x1.trans x2) itok_range q⟩)
/-- a text's signs -/
def itS (z : Str) : Nat → E → Prop := fun i e => ∃ cp, z.cps[i]? = some cp ∧ e = .d (.str ⟨#[cp]⟩)
theorem ji_str (h : JE X F iter s fun e s1 => ∃ z, e = .d (.str z) ∧ Θ z.cps.size (itS z) s1) : JI X F tg iter s Θ := fun as G H σ R c k =>
  PI.sem (pi_str (pe_sem X iter)) (h as G H σ _ c fun v as1 G1 H1 e1 s1 c1 x1 ve ⟨z, e2, q⟩ => by
    subst e2
    cases ve
    exact ⟨z, rfl, k _ as1 G1 H1 s1 _ _ c1 x1 ⟨fun _ _ _ _ _ _ _ => Nat.le_refl _, fun i _ _ _ _ _ hi _ _ => hi, fun i as' G' H' σ' s' x H2 hi c x1 ⟨q1, cp, q2, q3⟩ => ⟨G', .d (.str ⟨#[cp]⟩), by rw [q1]; exact c, ⟨Same.refl _, fun _ _ h => h⟩, by rw [q3]; exact .str _, cp, q2, rfl⟩, fun i as' G' H' σ' s' x H2 hi c x1 ⟨q1, cp, q2, q3⟩ => by rw [q1]; exact Same.refl _⟩ q⟩)
/-! ### for -/
theorem for_any {J : It} {n : Nat} {g : TG} {tb : TS} {D : Ends} {σ : L2.St} {H : Hp} (Pv : Nat → L2.St → Hp → Prop) (h0 : Pv 0 σ H) (hst : ∀ σ H, Pv n σ H → J.stop n H) (hgo : ∀ i σ H, i < n → Pv i σ H → J.go i H)
    (hs : ∀ i σ H, i < n → Pv i σ H → ∀ x H', J.yld i H x H' → g x σ H' fun σ2 H2 => tb { D with nx := Pv (i + 1), ct := Pv (i + 1), bk := D.nx } σ2 H2) (hd : ∀ σ H, Pv n σ H → D.nx σ H) :
    ∃ W : Nat → Nat → L2.St → Hp → Prop, (∃ m, W 0 m σ H) ∧ ∀ i m σ H, W i m σ H →
      (J.stop i H ∧ D.nx σ H) ∨ (J.go i H ∧ ∃ N : L2.St → Hp → Prop, (∀ σ' H', N σ' H' → ∃ m', m' < m ∧ W (i + 1) m' σ' H') ∧ ∀ x H', J.yld i H x H' → g x σ H' fun σ2 H2 => tb { D with nx := N, ct := N, bk := D.nx } σ2 H2) := by
  refine ⟨fun i m σ H => m = n - i ∧ i ≤ n ∧ Pv i σ H, ⟨n, by simp, Nat.zero_le _, h0⟩, ?_⟩
  rintro i m σ H ⟨rfl, hi, p⟩
  by_cases hlt : i < n
  · exact .inr ⟨hgo i σ H hlt p, Pv (i + 1), fun σ' H' p' => ⟨n - (i + 1), by omega, rfl, hlt, p'⟩, hs i σ H hlt p⟩
  · have e : i = n := by omega
    subst e
    exact .inl ⟨hst σ H p, hd σ H p⟩
/-- one turn: the target is stored, the body runs -/
def Turn1 (X : Cx) (F : Fr) (tg : Expr) (body : List Stmt) (P : Po) (Nx : S → Prop) (v : E) (s : S) : Prop :=
  JG X F tg v s fun s2 => JSs X F body s2 { nx := Nx, ct := Nx, bk := P.nx, rt := P.rt }
theorem js_for {B : Nat} (bx : Bx X B) (In : Nat → S → Prop) (h : JI X F tg iter s fun n it s1 => In 0 s1 ∧ (∀ i v s', i < n → it i v → In i s' → Turn1 X F tg body P (In (i + 1)) v s') ∧ ∀ s', In n s' → P.nx s')
    (hs : ∀ x, foldedSetIterable iter X.env x = pure x := by intro _; rfl) : JS X F (.For tg iter body [] pos) s P := fun as G H σ D c k =>
  PS.sem (ps_for bx.po bx.calm (pi_sem X tg iter) (pg_sem X tg) (pss_sem X body) hs) (h as G H σ _ c fun J as1 G1 H1 s1 n it c1 x1 ok ⟨h0, ht, hd⟩ => by
    refine for_any (fun i σ' H' => ∃ as' G' s', Cz X F as' G' H' σ' s' ∧ Same G1 G' ∧ In i s') ⟨as1, G1, s1, c1, Same.refl _, h0⟩ (fun σ' H' ⟨as', G', s', c', x', _⟩ => ok.stop as' G' H' σ' s' c' x') (fun i σ' H' hi ⟨as', G', s', c', x', _⟩ => ok.go i as' G' H' σ' s' hi c' x')
      (fun i σ' H' hi ⟨as', G', s', c', x', q⟩ v H2 y => ?_) fun σ' H' ⟨as', G', s', c', x', q⟩ => k.nx as' G' H' σ' s' c' (x1.sub.trans x') (hd s' q)
    obtain ⟨G2, e, c2, ⟨x2, _⟩, ve, hv⟩ := ok.yld i as' G' H' σ' s' v H2 hi c' x' y
    have x3 : Same G1 G2 := x'.trans x2
    refine ht i e s' hi hv q as' G2 H2 σ' v _ c2 ve fun as3 G3 H3 σ3 s3 c3 x4 q3 => ?_
    refine q3 as3 G3 H3 σ3 _ c3 ⟨fun as5 G5 H5 σ5 s5 c5 x5 t => ⟨as5, G5, s5, c5, (x3.trans x4.sub).trans x5, t⟩, fun v as5 G5 H5 σ5 e5 s5 c5 x5 ve t => k.rt v as5 G5 H5 σ5 e5 s5 c5 (x1.sub.trans ((x3.trans x4.sub).trans x5)) ve t, fun as5 G5 H5 σ5 s5 c5 x5 t => k.nx as5 G5 H5 σ5 s5 c5 (x1.sub.trans ((x3.trans x4.sub).trans x5)) t,
      fun as5 G5 H5 σ5 s5 c5 x5 t => ⟨as5, G5, s5, c5, (x3.trans x4.sub).trans x5, t⟩⟩)
/-- while -/
theorem js_while {B : Nat} (bx : Bx X B) (W : S → Prop) (μ : S → Nat) (h0 : W s) (h : ∀ s, W s → JT X F c s fun b s2 => if b = true then JSs X F body s2 { nx := fun s3 => W s3 ∧ μ s3 < μ s, ct := fun s3 => W s3 ∧ μ s3 < μ s, bk := P.nx, rt := P.rt } else P.nx s2) :
    JS X F (.While c body [] pos) s P := fun as G H σ D cz k =>
  PS.sem (ps_while bx.po (pt_sem X c) (pss_sem X body)) (by
    refine ⟨fun m σ' H' => ∃ as' G' s', Cz X F as' G' H' σ' s' ∧ Same G G' ∧ W s' ∧ m = μ s', ⟨_, as, G, s, cz, Same.refl _, h0, rfl⟩, ?_⟩
    rintro m σ' H' ⟨as', G', s', c', x', w, rfl⟩
    refine h s' w as' G' H' σ' _ c' fun b as2 G2 H2 s2 c2 x2 q => ?_
    cases b with
    | true =>
      simp only [if_true] at q ⊢
      refine ⟨fun σ3 H3 => ∃ as3 G3 s3, Cz X F as3 G3 H3 σ3 s3 ∧ Same G G3 ∧ W s3 ∧ μ s3 < μ s', fun σ3 H3 ⟨as3, G3, s3, c3, x3, w3, l3⟩ => ⟨_, l3, as3, G3, s3, c3, x3, w3, rfl⟩, ?_⟩
      exact q as2 G2 H2 σ' _ c2 ⟨fun as5 G5 H5 σ5 s5 c5 x5 t => ⟨as5, G5, s5, c5, (x'.trans x2.sub).trans x5, t⟩, fun v as5 G5 H5 σ5 e5 s5 c5 x5 ve t => k.rt v as5 G5 H5 σ5 e5 s5 c5 ((x'.trans x2.sub).trans x5) ve t, fun as5 G5 H5 σ5 s5 c5 x5 t => k.nx as5 G5 H5 σ5 s5 c5 ((x'.trans x2.sub).trans x5) t,
        fun as5 G5 H5 σ5 s5 c5 x5 t => ⟨as5, G5, s5, c5, (x'.trans x2.sub).trans x5, t⟩⟩
    | false => exact k.nx as2 G2 H2 σ' s2 c2 (x'.trans x2.sub) q)
/-- freezing a cell between two statements -/
theorem jss_frz {sts : List Stmt} {k : Nat} {kd : Kd} {es : List E} {ds : List D} (h1 : nth s.ce k = some (.nd kd es)) (h2 : dsOf es = some ds) (h3 : ∀ C fs, kd ≠ .ins C fs) (h4 : s.ar ≤ k) (h : JSs X F sts (s.fz k (.nd kd ds)) P) : JSs X F sts s P := fun as G H σ D c kk => by
  rw [dsOf_eq h2] at h1
  obtain ⟨a, G2, _, x2, c2, _⟩ := c.fz h1 h3 h4
  exact h as G2 H σ D c2 (kk.ext x2)
/-- forgetting: what follows is shown of less -/
def E.ltB (n : Nat) : Option E → Bool
  | some (.r k) => decide (k < n)
  | _ => true
def Cell.ltB (n : Nat) : Cell → Bool
  | .gone => true
  | .nd _ es => es.all (E.lt n)
theorem Cz.weak' {as : List Addr} {G H : Hp} {σ : L2.St} {s' : S} (c : Cz X F as G H σ s) (w : Wk s s') (h1 : s'.sl.all (E.ltB s'.ce.length) = true) (h2 : s'.ce.all (Cell.ltB s'.ce.length) = true) : Cz X F (as.take s'.ce.length) G H σ s' := by
  refine c.weak w (fun i e he => ?_) fun k kd es hk e he => ?_
  · have := List.all_eq_true.mp h1 _ (List.mem_of_getElem? he)
    cases e with
    | d x => rfl
    | r k => exact this
  · have := List.all_eq_true.mp h2 _ (List.mem_of_getElem? hk)
    exact List.all_eq_true.mp this e he
theorem jss_weak {sts : List Stmt} {s' : S} (w : Wk s s') (h1 : s'.sl.all (E.ltB s'.ce.length) = true) (h2 : s'.ce.all (Cell.ltB s'.ce.length) = true) (h : JSs X F sts s' P) : JSs X F sts s P := fun as G H σ D c k =>
  h _ G H σ D (c.weak' w h1 h2) (k.exs (Same.refl _))
/-- .. at the end of a block -/
theorem jss_end {s' : S} (w : Wk s s') (h1 : s'.sl.all (E.ltB s'.ce.length) = true) (h2 : s'.ce.all (Cell.ltB s'.ce.length) = true) (h : P.nx s') : JSs X F [] s P := jss_weak w h1 h2 (jss_nil h)
end
end DL
namespace DL
open PySem PySem.Spec PyProof.Rows L2
variable {X : Cx} {F : Fr} {s : S}
/-! ### comprehensions -/
structure IsBlk (X : Cx) (scope : Scope) (Y : Cx) : Prop where
  ex : ∃ (st : Shared) (H : Hp) (C : Addr) (cl : List (Str × Addr)) (fp : List Addr), Y = X.blk st H scope (compEnvC scope cl C X.env) fp
theorem IsBlk.K {scope : Scope} {Y : Cx} (h : IsBlk X scope Y) : Y.K = X.K := by obtain ⟨_, _, _, _, _, rfl⟩ := h.ex; rfl
theorem IsBlk.is {scope : Scope} {Y : Cx} {P : Program} {w : World} {K : PySem.W.Frag} {mg : Str → Option Value} {base : Heap} {N : List Str} {sc : Scope} {k : Nat} (h : IsBlk X scope Y) (hX : XIs X P w K mg base N sc k) : XIs Y P w K mg base N (relS scope sc) k := by
  obtain ⟨_, _, _, _, _, rfl⟩ := h.ex
  exact ⟨hX.eP, hX.eW, hX.eK, hX.eM, hX.eB, hX.eN, by rw [← hX.eS]; rfl, hX.calm, hX.nd, rfl, hX.room⟩
theorem cz_blk {scope : Scope} {Y : Cx} (h : IsBlk X scope Y) {as : List Addr} {G H : Hp} {σ : L2.St} {s : S} (c : Cz X F as G H σ s) : Cz Y F as G H σ s := by
  obtain ⟨_, _, _, _, _, rfl⟩ := h.ex
  exact ⟨c.sub, c.base, c.new, c.frame, c.len, c.pre, c.nd, c.own, c.fresh, c.there, c.cells, c.slots, c.slen, c.har⟩
theorem cz_ublk {scope : Scope} {Y : Cx} (h : IsBlk X scope Y) {as : List Addr} {G H : Hp} {σ : L2.St} {s : S} (c : Cz Y F as G H σ s) : Cz X F as G H σ s := by
  obtain ⟨_, _, _, _, _, rfl⟩ := h.ex
  exact ⟨c.sub, c.base, c.new, c.frame, c.len, c.pre, c.nd, c.own, c.fresh, c.there, c.cells, c.slots, c.slen, c.har⟩
def wipeN {α : Type} (l : List (Option α)) : List Nat → List (Option α)
  | [] => l
  | v :: vs => setN (wipeN l vs) v none
def S.wipe (s : S) (vs : List Nat) : S := ⟨wipeN s.sl vs, s.ce, s.ar⟩
theorem wipeN_len {α : Type} (l : List (Option α)) : ∀ vs, (wipeN l vs).length = l.length
  | [] => rfl
  | v :: vs => by unfold wipeN; rw [setN_eq, List.length_set, wipeN_len l vs]
theorem wipeN_some {α : Type} {l : List (Option α)} {i : Nat} {x : α} : ∀ {vs : List Nat}, (wipeN l vs)[i]? = some (some x) → l[i]? = some (some x) ∧ i ∉ vs
  | [], h => ⟨h, by simp⟩
  | v :: vs, h => by
    unfold wipeN at h
    rw [setN_eq] at h
    by_cases hi : v = i
    · subst hi
      by_cases hv : v < (wipeN l vs).length
      · rw [List.getElem?_set_self hv] at h; cases h
      · rw [List.getElem?_eq_none (by simpa using hv)] at h; cases h
    · rw [List.getElem?_set_ne hi] at h
      obtain ⟨h1, h2⟩ := wipeN_some h
      exact ⟨h1, by simp only [List.mem_cons, not_or]; exact ⟨fun e => hi e.symm, h2⟩⟩
theorem wipe_out' {σ : L2.St} {i : Nat} {vs : List Nat} (h : i ∉ vs) : (wipe σ vs)[i]? = σ[i]? := by
  induction vs with
  | nil => rfl
  | cons v vs ih =>
    unfold wipe
    rw [List.getElem?_set_ne (fun z => h (by rw [z]; exact List.mem_cons_self)), ih fun z => h (List.mem_cons_of_mem _ z)]
theorem wipe_in {σ : L2.St} {i : Nat} {vs : List Nat} (h : i ∈ vs) (hl : i < σ.length) : (wipe σ vs)[i]? = some none := by
  induction vs with
  | nil => cases h
  | cons v vs ih =>
    unfold wipe
    by_cases hv : v = i
    · subst hv
      rw [List.getElem?_set_self (by rw [wipe_length]; exact hl)]
    · rw [List.getElem?_set_ne hv]
      exact ih ((List.mem_cons.mp h).resolve_left fun z => hv z.symm)
theorem wipe_same {σ τ : L2.St} {vs : List Nat} (hl : σ.length = τ.length) (h : ∀ i, i ∉ vs → σ[i]? = τ[i]?) : wipe σ vs = wipe τ vs := by
  apply List.ext_getElem?
  intro i
  by_cases hi : i ∈ vs
  · by_cases hl1 : i < σ.length
    · rw [wipe_in hi hl1, wipe_in hi (hl ▸ hl1)]
    · rw [List.getElem?_eq_none (by rw [wipe_length]; omega), List.getElem?_eq_none (by rw [wipe_length]; omega)]
  · rw [wipe_out' hi, wipe_out' hi, h i hi]
theorem Cz.wipe {as : List Addr} {G H : Hp} {σ : L2.St} (c : Cz X F as G H σ s) (vs : List Nat) : Cz X F as G H (wipe σ vs) (s.wipe vs) := by
  refine ⟨c.sub, c.base, c.new, c.frame, c.len, c.pre, c.nd, c.own, c.fresh, c.there, c.cells, fun i e he => ?_, ?_, c.har⟩
  · obtain ⟨h1, h2⟩ := wipeN_some (show (wipeN s.sl vs)[i]? = _ from he)
    obtain ⟨v, w1, w2⟩ := c.slots i e h1
    exact ⟨v, by rw [wipe_out' h2]; exact w1, w2⟩
  · show (wipeN s.sl vs).length = _
    rw [wipeN_len, wipe_length]; exact c.slen
/-- the slots of an elder state -/
theorem Cz.back {as as' : List Addr} {G G' H H' : Hp} {σ τ : L2.St} {s' : S} (c : Cz X F as G H σ s) (c' : Cz X F as' G' H' τ s') (x : Ext as as' G G') : Cz X F as' G' H' σ ⟨s.sl, s'.ce, s.ar⟩ :=
  ⟨c'.sub, c'.base, c'.new, c'.frame, c'.len, c'.pre, c'.nd, c'.own, c'.fresh, c'.there, c'.cells, fun i e he => by
    obtain ⟨v, w1, w2⟩ := c.slots i e he
    exact ⟨v, w1, x.ve w2⟩, c.slen, c.har⟩
/-- a clause's tests -/
def JTs (X : Cx) (F : Fr) (ifs : List Expr) (s : S) (Ψ : Bool → S → Prop) : Prop := match ifs with
  | [] => Ψ true s
  | [c] => JT X F c s Ψ
  | _ => False
theorem jts_run {ifs : List Expr} {Ψ : Bool → S → Prop} {Q : Bool → Hp → Prop} {as : List Addr} {G H : Hp} {σ : L2.St} (h : JTs X F ifs s Ψ) (c : Cz X F as G H σ s) (k : ∀ b as' G' H' s', Cz X F as' G' H' σ s' → Ext as as' G G' → Ψ b s' → Q b H') :
    ∀ pins st, Inv X pins σ H st → wpAny (model X.prog X.w) X.A (forIn ifs true fun c r => if r = true then do let ok ← isTrue c X.env (eval c X.env); pure (ForInStep.yield ok) else pure (ForInStep.yield r)) (TP X pins σ Q) X.xe st := by
  match ifs, h with
  | [], h => exact fun pins st I => pts_nil.run pins st σ H Q I (k true as G H s c (Ext.refl _ _) h)
  | [e], h => exact fun pins st I => (pts_one (pt_sem X e)).run pins st σ H Q I (h as G H σ Q c k)
  | _ :: _ :: _, h => exact h.elim
section
variable {elt iter : Expr} {ifs : List Expr} {scope : Scope} {own : List (Str × Nat)} {pos p : Pos} {x : Str} {j B : Nat} {Φ : E → S → Prop}
/-- the block's tests and element, in every block -/
def ttB (X : Cx) (scope : Scope) (ifs : List Expr) : TT := fun σ H Q => ∀ Y, IsBlk X scope Y → ∀ pins st, Inv Y pins σ H st → wpAny (model Y.prog Y.w) Y.A (forIn ifs true fun c r => if r = true then do let ok ← isTrue c Y.env (eval c Y.env); pure (ForInStep.yield ok) else pure (ForInStep.yield r)) (TP Y pins σ Q) Y.xe st
def teB (X : Cx) (scope : Scope) (elt : Expr) : TE := fun σ H Q => ∀ Y, IsBlk X scope Y → semE Y elt σ H Q
theorem pts_B {X : Cx} {scope : Scope} {ifs : List Expr} (st : Shared) (H : Hp) (C : Addr) (cl : List (Str × Addr)) (fp : List Addr) : PTs (X.blk st H scope (compEnvC scope cl C X.env) fp) ifs (ttB X scope ifs) := ⟨fun pins s σ H Q I h => h _ ⟨st, _, C, cl, fp, rfl⟩ pins s I⟩
theorem pe_B {X : Cx} {scope : Scope} {elt : Expr} (st : Shared) (H : Hp) (C : Addr) (cl : List (Str × Addr)) (fp : List Addr) : PE (X.blk st H scope (compEnvC scope cl C X.env) fp) elt (teB X scope elt) := ⟨fun pins s σ H Q I h => h _ ⟨st, _, C, cl, fp, rfl⟩ pins s I⟩
theorem lc_read (hj : j ∈ own.map (·.2))
    (h : JI X F (.Name x p) iter s fun n it s1 => ∃ In : Nat → List E → S → Prop, In 0 [] ((s1.wipe (own.map (·.2))).push .lst []) ∧
      (∀ i v acc s', i < n → it i v → In i acc s' → nth s'.ce s1.ce.length = some (.nd .lst acc) ∧ ∀ Y, IsBlk X scope Y → JTs Y F ifs (s'.set j v) fun b s2 =>
        if b = true then ∀ Y2, IsBlk X scope Y2 → JE Y2 F elt s2 fun y s3 => nth s3.ce s1.ce.length = some (.nd .lst acc) ∧ acc.length < sizeLine ∧ In (i + 1) (acc ++ [y]) ((s3.put s1.ce.length .lst (acc ++ [y])).wipe (own.map (·.2)))
        else In (i + 1) acc (s2.wipe (own.map (·.2)))) ∧
      ∀ acc s', In n acc s' → Φ (.r s1.ce.length) ⟨s1.sl, s'.ce, s1.ar⟩) :
    ∀ as G H σ (Q : VK), Cz X F as G H σ s → (∀ v as' G' H' e' s', Cz X F as' G' H' σ s' → Ext as as' G G' → VE X.K G' as' v e' → Φ e' s' → Q v H') → tLc (semI X (.Name x p) iter) (gName j) (ttB X scope ifs) (teB X scope elt) (own.map (·.2)) σ H Q := by
  refine fun as G H σ Q c k => h as G H σ _ c fun J as1 G1 H1 s1 n it c1 x1 okJ ⟨In, h0, ht, hd⟩ => ?_
  intro D hD
  -- the state of a turn
  have c1' := (c1.wipe (own.map (·.2))).addO (kd := .lst) (o := .lst []) (vs := []) (es := []) hD upd_same .nil
  have hk : s1.ce.length = as1.length := c1.len.symm
  refine ⟨fun i m H' => m = n - i ∧ i ≤ n ∧ ∃ as' G' s' acc, Cz X F as' G' H' (wipe σ (own.map (·.2))) s' ∧ as1 ++ [D] <+: as' ∧ Same G1 G' ∧ In i acc s', ⟨n, by simp, Nat.zero_le _, _, _, _, [], c1', List.prefix_refl _, Same.refl _, h0⟩, ?_⟩
  rintro i m H' ⟨rfl, hi, as', G', s', acc, c', pr, sg, q⟩
  have prD : as'[s1.ce.length]? = some D := pre_get pr (by rw [hk, List.getElem?_append_right (Nat.le_refl _)]; simp)
  by_cases hlt : i < n
  · refine .inr ⟨okJ.go i as' G' H' _ _ hlt c' sg, fun H2 => ∃ as' G' s' acc, Cz X F as' G' H2 (wipe σ (own.map (·.2))) s' ∧ as1 ++ [D] <+: as' ∧ Same G1 G' ∧ In (i + 1) acc s', fun H2 ⟨as2, G2, s2, acc2, c2, p2, g2, q2⟩ => ⟨n - (i + 1), by omega, rfl, hlt, as2, G2, s2, acc2, c2, p2, g2, q2⟩, fun v H2 y => ?_⟩
    obtain ⟨G2, e, c2, ⟨x2, _⟩, ve, hv⟩ := okJ.yld i as' G' H' _ _ v H2 hlt c' sg y
    obtain ⟨t1, t2⟩ := ht i e acc s' hlt hv q
    have c3 := c2.set (i := j) ve
    have ws : wipe ((wipe σ (own.map (·.2))).set j (some v)) (own.map (·.2)) = wipe σ (own.map (·.2)) := wipe_same (by rw [List.length_set, wipe_length]) fun l hl => by
      rw [List.getElem?_set_ne (fun z => hl (by rw [← z]; exact hj)), wipe_out' hl]
    refine ⟨ws, fun Y hY pins st I => jts_run (t2 Y hY) (cz_blk hY c3) (fun b as4 G4 H4 s4 c4 x4 q4 => ?_) pins st I⟩
    cases b with
    | true =>
      simp only [if_true] at q4 ⊢
      refine fun Y2 hY2 => q4 Y2 hY2 as4 G4 H4 _ _ (cz_blk hY2 (cz_ublk hY c4)) fun y as5 G5 H5 y' s5 c5 x5 ve5 ⟨w1, w2, w3⟩ => ?_
      have c5 := cz_ublk hY2 c5
      rw [hY2.K] at ve5
      have p5 : as1 ++ [D] <+: as5 := (pr.trans x4.pre).trans x5.pre
      have prD5 : as5[s1.ce.length]? = some D := pre_get p5 (by rw [hk, List.getElem?_append_right (Nat.le_refl _)]; simp)
      rw [nth_eq] at w1
      obtain ⟨b, ws5, y1, y2, y3⟩ := c5.cells _ _ _ w1
      rw [prD5] at y1
      cases y1
      have y2' : H5 D = some (.lst ws5) := y2
      have hl := Paired.length y3
      refine ⟨ws5, y2', by rw [hl]; exact w2, ?_⟩
      have c6 := (c5.put (kd := .lst) (es := acc ++ [y']) (o := .lst (ws5 ++ [y])) w1 prD5 upd_same (y3.snoc ve5)).wipe (own.map (·.2))
      rw [ws] at c6
      exact ⟨as5, G5, _, _, c6, p5, ((sg.trans x2).trans x4.sub).trans x5.sub, w3⟩
    | false =>
      have c5 := (cz_ublk hY c4).wipe (own.map (·.2))
      rw [ws] at c5
      exact ⟨as4, G4, _, acc, c5, pr.trans x4.pre, (sg.trans x2).trans x4.sub, q4⟩
  · have e : i = n := by omega
    subst e
    refine .inl ⟨okJ.stop as' G' H' _ _ c' sg, ?_⟩
    have x : Ext as1 as' G1 G' := ⟨pre_snoc.trans pr, sg⟩
    exact k _ as' G' H' (.r s1.ce.length) _ (c1.back c' x) (x1.trans x) ⟨D, prD, rfl⟩ (hd acc s' q)
theorem pg_B (hn : ∀ Y, IsBlk X scope Y → NmW Y j x) (st : Shared) (H : Hp) (C : Addr) (cl : List (Str × Addr)) (fp : List Addr) : PG (X.blk st H scope (compEnvC scope cl C X.env) fp) (.Name x p) (gName j) := by
  have := hn _ ⟨st, H, C, cl, fp, rfl⟩
  exact pg_name this.nd this.nm this.loc this.hf
theorem je_lc (bx : Bx X B) (ok : BlkOk X.N X.env.scope scope own) (hj : j ∈ own.map (·.2)) (hn : ∀ Y, IsBlk X scope Y → NmW Y j x)
    (h : JI X F (.Name x p) iter s fun n it s1 => ∃ In : Nat → List E → S → Prop, In 0 [] ((s1.wipe (own.map (·.2))).push .lst []) ∧
      (∀ i v acc s', i < n → it i v → In i acc s' → nth s'.ce s1.ce.length = some (.nd .lst acc) ∧ ∀ Y, IsBlk X scope Y → JTs Y F ifs (s'.set j v) fun b s2 =>
        if b = true then ∀ Y2, IsBlk X scope Y2 → JE Y2 F elt s2 fun y s3 => nth s3.ce s1.ce.length = some (.nd .lst acc) ∧ acc.length < sizeLine ∧ In (i + 1) (acc ++ [y]) ((s3.put s1.ce.length .lst (acc ++ [y])).wipe (own.map (·.2)))
        else In (i + 1) acc (s2.wipe (own.map (·.2)))) ∧
      ∀ acc s', In n acc s' → Φ (.r s1.ce.length) ⟨s1.sl, s'.ce, s1.ar⟩)
    (hs : ∀ x, foldedSetIterable iter X.env x = pure x := by intro _; rfl) : JE X F (.ListComp elt [⟨.Name x p, iter, ifs, 0⟩] scope pos) s Φ :=
  je_of (pe_lc bx.calm bx.nd (pi_sem X _ iter) ok (pg_B hn) pts_B pe_B hs) (lc_read hj h)
/-- name = [..] on one line -/
theorem js_setLc {i : Nat} {y : Str} {py spos : Pos} {P : Po} (bx : Bx X B) (ny : NmW X i y) (ly : X.env.scope.names.lookup y = some .local) (hsw : swapsWith (.ListComp elt [⟨.Name x p, iter, ifs, 0⟩] scope pos) (some (.Name y py)) spos.line X.env = pure true)
    (ok : BlkOk X.N X.env.scope scope own) (hj : j ∈ own.map (·.2)) (hn : ∀ Y, IsBlk X scope Y → NmW Y j x)
    (h : JI X F (.Name x p) iter s fun n it s1 => ∃ In : Nat → List E → S → Prop, In 0 [] ((s1.wipe (own.map (·.2))).push .lst []) ∧
      (∀ i v acc s', i < n → it i v → In i acc s' → nth s'.ce s1.ce.length = some (.nd .lst acc) ∧ ∀ Y, IsBlk X scope Y → JTs Y F ifs (s'.set j v) fun b s2 =>
        if b = true then ∀ Y2, IsBlk X scope Y2 → JE Y2 F elt s2 fun y s3 => nth s3.ce s1.ce.length = some (.nd .lst acc) ∧ acc.length < sizeLine ∧ In (i + 1) (acc ++ [y]) ((s3.put s1.ce.length .lst (acc ++ [y])).wipe (own.map (·.2)))
        else In (i + 1) acc (s2.wipe (own.map (·.2)))) ∧
      ∀ acc s', In n acc s' → P.nx ((⟨s1.sl, s'.ce, s1.ar⟩ : S).set i (.r s1.ce.length)))
    (hs : ∀ x, foldedSetIterable iter X.env x = pure x := by intro _; rfl) : JS X F (.Assign [.Name y py] (.ListComp elt [⟨.Name x p, iter, ifs, 0⟩] scope pos) spos) s P := fun as G H σ D c k =>
  PS.sem (ps_setLc bx.calm bx.nd ny.nm ly hsw (pi_sem X _ iter) ok (pg_B hn) pts_B pe_B hs) (lc_read (Φ := fun e1 s1 => P.nx (s1.set i e1)) hj h as G H σ _ c fun v as1 G1 H1 e1 s1 c1 x1 ve q => k.nx as1 G1 H1 _ _ (c1.set ve) x1.sub q)
end
end DL
namespace DL
open PySem PySem.Spec PyProof.Rows L2
variable {X : Cx} {F : Fr} {s : S}
/-! ### blocks, statement by statement -/
section
variable {e a b c tg iter : Expr} {es rest : List Expr} {st : Stmt} {sts body : List Stmt} {P : Po} {pos p p' : Pos} {x : Str}
theorem jss_set {i : Nat} (n : NmW X i x) (h : JE X F e s fun e1 s1 => JSs X F sts (s1.set i e1) P) (hs : swapsWith e (some (.Name x p')) pos.line X.env = pure false := by rfl) : JSs X F (.Assign [.Name x p'] e pos :: sts) s P :=
  jss_cons (js_set n h hs)
theorem jss_ret (h : JE X F e s P.rt) : JSs X F (.Return (some e) pos :: sts) s P := jss_cons (js_ret h)
theorem jss_retN (h : P.rt (.d .non) s) : JSs X F (.Return none pos :: sts) s P := jss_cons (js_retN h)
theorem jss_break (h : P.bk s) : JSs X F (.Break pos :: sts) s P := jss_cons (js_break h)
theorem jss_cont (h : P.ct s) : JSs X F (.Continue pos :: sts) s P := jss_cons (js_cont h)
theorem jss_expr (h : JE X F e s fun _ s1 => JSs X F sts s1 P) (hs : swapsWith e none pos.line X.env = pure false := by rfl) : JSs X F (.Expr e pos :: sts) s P := jss_cons (js_expr h hs)
theorem jss_doc {z : Str} {j : Nat} (h : JSs X F sts s P) : JSs X F (.Expr (.Constant (.str z) j p) pos :: sts) s P := jss_cons (js_doc h)
theorem jss_asg {tg : Expr} (h : JE X F e s fun e1 s1 => JG X F tg e1 s1 fun s2 => JSs X F sts s2 P) (hs : swapsWithSole [tg] e pos.line X.env = pure false := by rfl) (hw : swappedStores [tg] e X.env = pure none := by rfl)
    (h1 : (assignEach [tg] X.env).map (·.2) = [assign tg X.env] := by rfl) : JSs X F (.Assign [tg] e pos :: sts) s P := jss_cons (js_asg h hs hw h1)
/-- behind an if: both branches come to the rest -/
def Po.then (P : Po) (N : S → Prop) : Po := { P with nx := N }
theorem jss_if {t u : List Stmt} (h : JT X F c s fun k s1 => if k = true then JSs X F t s1 (P.then fun s1 => JSs X F sts s1 P) else JSs X F u s1 (P.then fun s1 => JSs X F sts s1 P)) : JSs X F (.If c t u pos :: sts) s P := jss_cons (js_if h)
/-- an if whose block leaves -/
theorem jss_nilT {N : S → Prop} (h : N s) : JSs X F [] s (P.then N) := jss_nil h
/-- both branches come to M, the rest is shown once -/
theorem jss_ifM {t u : List Stmt} (M : S → Prop) (h : JT X F c s fun k s1 => if k = true then JSs X F t s1 (P.then M) else JSs X F u s1 (P.then M)) (h2 : ∀ s1, M s1 → JSs X F sts s1 P) : JSs X F (.If c t u pos :: sts) s P :=
  jss_cons (js_if (fun as G H σ Q cz k => h as G H σ Q cz fun b as' G' H' s' c' x q => k b as' G' H' s' c' x (by
    cases b with
    | true => exact JSs.mono q (fun s m => h2 s m) (fun _ _ z => z) (fun _ z => z) (fun _ z => z)
    | false => exact JSs.mono q (fun s m => h2 s m) (fun _ _ z => z) (fun _ z => z) (fun _ z => z))))
/-- the last statement -/
theorem jss_if1 {t u : List Stmt} (h : JT X F c s fun k s1 => if k = true then JSs X F t s1 P else JSs X F u s1 P) : JSs X F (.If c t u pos :: []) s P :=
  jss_cons (js_if (fun as G H σ Q cz k => h as G H σ Q cz fun b as' G' H' s' c' x q => k b as' G' H' s' c' x (by
    cases b with
    | true => exact JSs.mono q (fun s m => jss_nil m) (fun _ _ z => z) (fun _ z => z) (fun _ z => z)
    | false => exact JSs.mono q (fun s m => jss_nil m) (fun _ _ z => z) (fun _ z => z) (fun _ z => z))))
/-- an if that returns -/
theorem jss_ifr {e : Expr} {p1 : Pos} (h : JT X F c s fun k s1 => if k = true then JE X F e s1 P.rt else JSs X F sts s1 P) : JSs X F (.If c [.Return (some e) p1] [] pos :: sts) s P :=
  jss_cons (js_if (fun as G H σ Q cz k => h as G H σ Q cz fun b as' G' H' s' c' x q => k b as' G' H' s' c' x (by
    cases b with
    | true => exact jss_ret (P := P.then fun s1 => JSs X F sts s1 P) q
    | false => exact jss_nilT (P := P) (N := fun s1 => JSs X F sts s1 P) q)))
theorem jss_ifbr {p1 : Pos} (h : JT X F c s fun k s1 => if k = true then P.bk s1 else JSs X F sts s1 P) : JSs X F (.If c [.Break p1] [] pos :: sts) s P :=
  jss_cons (js_if (fun as G H σ Q cz k => h as G H σ Q cz fun b as' G' H' s' c' x q => k b as' G' H' s' c' x (by
    cases b with
    | true => exact jss_break (P := P.then fun s1 => JSs X F sts s1 P) q
    | false => exact jss_nilT (P := P) (N := fun s1 => JSs X F sts s1 P) q)))
theorem jss_for {B : Nat} (bx : Bx X B) (In : Nat → S → Prop) (h : JI X F tg iter s fun n it s1 => In 0 s1 ∧ (∀ i v s', i < n → it i v → In i s' → JG X F tg v s' fun s2 => JSs X F body s2 { nx := In (i + 1), ct := In (i + 1), bk := fun s3 => JSs X F sts s3 P, rt := P.rt }) ∧ ∀ s', In n s' → JSs X F sts s' P)
    (hs : ∀ x, foldedSetIterable iter X.env x = pure x := by intro _; rfl) : JSs X F (.For tg iter body [] pos :: sts) s P := jss_cons (js_for bx In h hs)
theorem jss_while {B : Nat} (bx : Bx X B) (W : S → Prop) (μ : S → Nat) (h0 : W s) (h : ∀ s, W s → JT X F c s fun b s2 => if b = true then JSs X F body s2 { nx := fun s3 => W s3 ∧ μ s3 < μ s, ct := fun s3 => W s3 ∧ μ s3 < μ s, bk := fun s3 => JSs X F sts s3 P, rt := P.rt } else JSs X F sts s2 P) :
    JSs X F (.While c body [] pos :: sts) s P := jss_cons (js_while bx W μ h0 h)
theorem jss_par {i j : Nat} {y : Str} {px py pt pt2 : Pos} {kt k2 : Nat} {B : Nat} (bx : Bx X B) (n : NmW X i x) (m : NmW X j y) (hij : i ≠ j) (lx : X.env.scope.names.lookup x = some .local) (ly : X.env.scope.names.lookup y = some .local)
    (hw : swappedStores [.Tuple [.Name x px, .Name y py] kt pt] (.Tuple [a, b] k2 pt2) X.env = pure (some [x, y]))
    (h : JE X F a s fun e1 s1 => JE X F b s1 fun e2 s2 => JSs X F sts ((s2.set i e1).set j e2) P)
    (hs : swapsWithSole [.Tuple [.Name x px, .Name y py] kt pt] (.Tuple [a, b] k2 pt2) pos.line X.env = pure false := by rfl) (ns : NoStar a := by intro _ _; rfl) (ns2 : NoStar b := by intro _ _; rfl) : JSs X F (.Assign [.Tuple [.Name x px, .Name y py] kt pt] (.Tuple [a, b] k2 pt2) pos :: sts) s P :=
  jss_cons (js_par bx n m hij lx ly hw h hs ns ns2)
end
/-! ### branches -/
theorem ite_dec {p A B : Prop} [Decidable p] (h1 : p → A) (h2 : ¬ p → B) : if decide p = true then A else B := by
  by_cases h : p
  · rw [if_pos (decide_eq_true h)]; exact h1 h
  · rw [if_neg (by simpa using h)]; exact h2 h
theorem ite_ndec {p A B : Prop} [Decidable p] (h1 : ¬ p → A) (h2 : p → B) : if (!decide p) = true then A else B := by
  by_cases h : p
  · rw [if_neg (by simpa using h)]; exact h2 h
  · rw [if_pos (by simpa using h)]; exact h1 h
theorem ite_bool {b : Bool} {A B : Prop} (h1 : b = true → A) (h2 : b = false → B) : if b = true then A else B := by
  cases b with
  | true => exact h1 rfl
  | false => exact h2 rfl
theorem ite_nbool {b : Bool} {A B : Prop} (h1 : b = false → A) (h2 : b = true → B) : if (!b) = true then A else B := by
  cases b with
  | true => exact h2 rfl
  | false => exact h1 rfl
theorem ite_nT {A B : Prop} (h : B) : if (!true) = true then A else B := h
theorem ite_nF {A B : Prop} (h : A) : if (!false) = true then A else B := h
end DL
namespace DL
open PySem PySem.Spec PyProof.Rows L2
variable {X : Cx} {F : Fr} {s : S}
theorem env_eq {env : Env} {sc : Scope} (h : env.scope = sc) : env = { env with scope := sc } := by cases env; subst h; rfl
section
variable {e a b c tg iter : Expr} {es rest : List Expr} {sts body : List Stmt} {P : Po} {pos p p' : Pos} {x : Str} {Φ : E → S → Prop} {Ψ : Bool → S → Prop}
variable {Pg : Program} {w : World} {K : PySem.W.Frag} {mg : Str → Option Value} {base : Heap} {N : List Str} {sc : Scope} {kk : Nat}
theorem jss_par' {i j : Nat} {y : Str} {px py pt pt2 : Pos} {kt k2 : Nat} (hX : XIs X Pg w K mg base N sc kk) (n : NmW X i x) (m : NmW X j y) (hij : i ≠ j) (lx : sc.names.lookup x = some .local) (ly : sc.names.lookup y = some .local)
    (h : JE X F a s fun e1 s1 => JE X F b s1 fun e2 s2 => JSs X F sts ((s2.set i e1).set j e2) P)
    (hw : swappedStores [.Tuple [.Name x px, .Name y py] kt pt] (.Tuple [a, b] k2 pt2) { X.env with scope := sc } = pure (some [x, y]))
    (hs : swapsWithSole [.Tuple [.Name x px, .Name y py] kt pt] (.Tuple [a, b] k2 pt2) pos.line X.env = pure false := by rfl) (ns : NoStar a := by intro _ _; rfl) (ns2 : NoStar b := by intro _ _; rfl) : JSs X F (.Assign [.Tuple [.Name x px, .Name y py] kt pt] (.Tuple [a, b] k2 pt2) pos :: sts) s P :=
  jss_par hX.bx n m hij (hX.loc lx) (hX.loc ly) (by rw [env_eq hX.eS]; exact hw) h hs ns ns2
/-! ### in a dict, in a text -/
def memK (k : Key) (ks : List Key) : Bool := ks.any fun k' => decide (k' = k)
theorem memK_iff {k : Key} {ks : List Key} : memK k ks = true ↔ k ∈ ks := by
  unfold memK
  rw [List.any_eq_true]
  constructor
  · rintro ⟨x, h, e⟩
    rw [← of_decide_eq_true e]; exact h
  · intro h
    exact ⟨k, h, decide_eq_true rfl⟩
theorem memK_cons {k k' : Key} {ks : List Key} : memK k (k' :: ks) = (decide (k' = k) || memK k ks) := rfl
theorem lk_mem {k : Key} : ∀ {ks : List Key} {vs : List V}, ks.length = vs.length → (valV (ks.zip vs) k).isSome = memK k ks
  | [], _, _ => by simp [valV, memK]
  | _ :: _, [], h => by simp at h
  | k' :: ks, v :: vs, h => by
    have ih := lk_mem (k := k) (ks := ks) (vs := vs) (by simpa using h)
    rw [memK_cons]
    by_cases e : k' = k
    · subst e
      simp [valV, List.zip_cons_cons, List.find?_cons]
    · have e2 : valV ((k' :: ks).zip (v :: vs)) k = valV (ks.zip vs) k := by simp [valV, List.zip_cons_cons, List.find?_cons, e]
      rw [e2, ih]
      simp [e]
theorem op_inD (hu : X.A.units + 1 < cLine) : OpR X (compareOp .In) (fun x y H Q => ∃ a o, y = .ref a ∧ DGet H a x o ∧ Q (.bl o.isSome) H) := by
  intro pins st σ H x y v u Q I rx ry h
  obtain ⟨a, o, rfl, g, q⟩ := h
  obtain rfl : u = Value.ref a := ry
  exact d_in hu I g rx fun s3 I3 => ⟨.bl o.isSome, H, I3, rfl, q⟩
theorem op_notInD (hu : X.A.units + 1 < cLine) : OpR X (compareOp .NotIn) (fun x y H Q => ∃ a o, y = .ref a ∧ DGet H a x o ∧ Q (.bl (!o.isSome)) H) := by
  intro pins st σ H x y v u Q I rx ry h
  obtain ⟨a, o, rfl, g, q⟩ := h
  obtain rfl : u = Value.ref a := ry
  exact d_notIn hu I g rx fun s3 I3 => ⟨.bl (!o.isSome), H, I3, rfl, q⟩
theorem jr_inD {B : Nat} {e1 e2 : E} {k : Key} {ks : List Key} {es : List E} (bx : Bx X B) (h : s.node e2 = some (.dct ks, es)) (hk : keyE e1 = some k) (q : Φ (.d (.bl (memK k ks))) s) : JR X F (compareOp .In) e1 e2 s Φ :=
  jr_of (op_inD bx.hu) fun as G H σ x y Q c v1 v2 kk => by
    obtain ⟨a, vs, rfl, ⟨n1, n2, od, n3⟩, ves⟩ := c.node v2 h
    obtain rfl := keyE_v hk v1
    exact ⟨a, _, rfl, .inl ⟨_, k, .inr ⟨od, n3⟩, rfl, rfl⟩, by rw [lk_mem n1]; exact kk _ as G H _ s c (Ext.refl _ _) (Rep.bl _) q⟩
theorem jr_ninD {B : Nat} {e1 e2 : E} {k : Key} {ks : List Key} {es : List E} (bx : Bx X B) (h : s.node e2 = some (.dct ks, es)) (hk : keyE e1 = some k) (q : Φ (.d (.bl (!memK k ks))) s) : JR X F (compareOp .NotIn) e1 e2 s Φ :=
  jr_of (op_notInD bx.hu) fun as G H σ x y Q c v1 v2 kk => by
    obtain ⟨a, vs, rfl, ⟨n1, n2, od, n3⟩, ves⟩ := c.node v2 h
    obtain rfl := keyE_v hk v1
    exact ⟨a, _, rfl, .inl ⟨_, k, .inr ⟨od, n3⟩, rfl, rfl⟩, by rw [lk_mem n1]; exact kk _ as G H _ s c (Ext.refl _ _) (Rep.bl _) q⟩
theorem jr_inS {cp : Nat} {z : Str} (q : Φ (.d (.bl (decide (cp ∈ z.cps.toList)))) s) : JR X F (compareOp .In) (.d (.str ⟨#[cp]⟩)) (.d (.str z)) s Φ :=
  jr_of op_in_sign fun as G H σ x y Q c v1 v2 kk => by
    cases v1
    cases v2
    exact ⟨cp, z, rfl, rfl, kk _ as G H _ s c (Ext.refl _ _) (Rep.bl _) q⟩
theorem jr_ninS {cp : Nat} {z : Str} (q : Φ (.d (.bl (!decide (cp ∈ z.cps.toList)))) s) : JR X F (compareOp .NotIn) (.d (.str ⟨#[cp]⟩)) (.d (.str z)) s Φ :=
  jr_of op_notIn_sign fun as G H σ x y Q c v1 v2 kk => by
    cases v1
    cases v2
    exact ⟨cp, z, rfl, rfl, kk _ as G H _ s c (Ext.refl _ _) (Rep.bl _) q⟩
theorem isBl_v {K : PySem.W.Frag} {G : Hp} {as : List Addr} {v : V} {e : E} {b : Bool} (h : VE K G as v e) : decide (v = .bl b) = isBl b e := by
  cases e with
  | r _ => obtain ⟨a, _, rfl⟩ := h; rfl
  | d x => cases h <;> simp [isBl]
theorem jr_isBl {e : E} {b : Bool} (q : Φ (.d (.bl (isBl b e))) s) : JR X F (compareOp .Is) e (.d (.bl b)) s Φ :=
  jr_of op_isBool fun as G H σ x y Q c v1 v2 k => by
    cases v2
    exact ⟨b, rfl, by rw [isBl_v v1]; exact k _ as G H _ s c (Ext.refl _ _) (Rep.bl _) q⟩
/-! ### unary minus -/
theorem ju_neg {i : Int} (q : Φ (.d (.int (-i))) s) : JU X F .USub (.d (.int i)) s Φ := fun as G H σ vs Q c ves k => by
  cases ves with
  | cons ve t =>
    cases t
    cases ve
    intro pins st σ' v I r
    exact un_neg pins st σ' H _ v Q I r ⟨i, rfl, k _ as G H _ s c (Ext.refl _ _) (Rep.int _) q⟩
/-! ### d[k] = v, d owned -/
def dpK (ks : List Key) (k : Key) : List Key := if memK k ks = true then ks else ks ++ [k]
def dpV {α : Type} (ks : List Key) (es : List α) (k : Key) (e : α) : List α := if memK k ks = true then (ks.zip es).map (fun q => if q.1 = k then e else q.2) else es ++ [e]
theorem dpK_nodup {ks : List Key} {k : Key} (h : ks.Nodup) : (dpK ks k).Nodup := by
  unfold dpK
  split
  · exact h
  · rename_i q
    rw [List.nodup_append]
    exact ⟨h, by simp, fun a ha b hb => by simp at hb; subst hb; exact fun z => q (memK_iff.mpr (z ▸ ha))⟩
theorem dpV_len {α : Type} {ks : List Key} {es : List α} {k : Key} {e : α} (h : ks.length = es.length) : (dpK ks k).length = (dpV ks es k e).length := by
  unfold dpK dpV
  split <;> simp [h]
theorem any_mem {k : Key} : ∀ {ks : List Key} {vs : List V}, ks.length = vs.length → ((ks.zip vs).any fun kv => decide (kv.1 = k)) = memK k ks
  | [], _, _ => by simp [memK]
  | _ :: _, [], h => by simp at h
  | k' :: ks, v :: vs, h => by
    rw [List.zip_cons_cons, List.any_cons, any_mem (by simpa using h), memK_cons]
theorem zip_map_put {k : Key} {v : V} : ∀ {ks : List Key} {vs : List V}, (ks.zip vs).map (fun kv => if kv.1 = k then (kv.1, v) else kv) = ks.zip ((ks.zip vs).map fun q => if q.1 = k then v else q.2)
  | [], _ => by simp
  | _ :: _, [] => by simp
  | k' :: ks, w :: vs => by
    rw [List.zip_cons_cons, List.map_cons, List.map_cons, List.zip_cons_cons, zip_map_put]
    by_cases e : k' = k
    · subst e; simp
    · simp [e]
theorem putK_zip {ks : List Key} {vs : List V} {k : Key} {v : V} (h : ks.length = vs.length) : putK (ks.zip vs) k v = (dpK ks k).zip (dpV ks vs k v) := by
  unfold putK dpK dpV
  rw [any_mem h]
  by_cases e : memK k ks = true
  · simp only [e, if_true]
    exact zip_map_put
  · rw [if_neg e, if_neg e, if_neg e, List.zip_append h]
    rfl
theorem ves_dpV {K : PySem.W.Frag} {G : Hp} {as : List Addr} {k : Key} {v : V} {e : E} (ve : VE K G as v e) {ks : List Key} {vs : List V} {es : List E} (h : VEs K G as vs es) : VEs K G as (dpV ks vs k v) (dpV ks es k e) := by
  unfold dpV
  split
  · rename_i hm
    clear hm
    induction h generalizing ks with
    | nil => simp; exact .nil
    | cons h t ih =>
      cases ks with
      | nil => exact .nil
      | cons k' ks =>
        rw [List.zip_cons_cons, List.zip_cons_cons, List.map_cons, List.map_cons]
        refine .cons ?_ ih
        by_cases q : k' = k
        · simp only [q, if_true]; exact ve
        · simp only [q, if_false]; exact h
  · exact h.snoc ve
theorem set_dictZ (hu : X.A.units + 1 < cLine) : PSet X (fun o i v H Q => ∃ (a : Addr) (od : Obj) (kvs : List (Key × V)) (k : Key), o = .ref a ∧ i = kV k ∧ H a = some (.frz od (.dK kvs)) ∧ (∀ o' u', X.H_0 a ≠ some (.frz o' u')) ∧ kvs.length < sizeLine ∧ ∀ od', Q (upd H a (.frz od' (.dK (putK kvs k v))))) := by
  intro pins st σ H o i v ov iv u Q I ro ri rv h
  obtain ⟨a, od, kvs, k, rfl, rfl, ha, hn, hz, q⟩ := h
  obtain rfl : ov = Value.ref a := ro
  have I1 := I.unlock ha hn
  refine d_setItem (H' := upd H a (.dK (putK kvs k v))) hu I1 (.inl ⟨kvs, k, upd_same, rfl, hz, by rw [upd_upd]⟩) ri rv fun s' I2 => ?_
  obtain ⟨od', I3⟩ := I2.lock (d := a) upd_same trivial
  rw [upd_upd] at I3
  exact ⟨_, I3, q od'⟩
theorem jg_setD {B : Nat} {o i : Expr} {v : E} {Φ : S → Prop} (bx : Bx X B) (hH : X.H_0 = F.H0) (h : JE X F o s fun eo s1 => JE X F i s1 fun ei s2 => ∃ k ks es kk, eo = .r k ∧ keyE ei = some kk ∧ nth s2.ce k = some (.nd (.dct ks) es) ∧ s2.ar ≤ k ∧ es.length < sizeLine ∧ Φ (s2.put k (.dct (dpK ks kk)) (dpV ks es kk v)))
    (ha : ∀ v, assign (.Subscript o i p) X.env v = (do
      let ov ← holding [v] (eval o X.env)
      let iv ← holding [v, ov] (eval i X.env)
      standAt p
      holding [v, ov, iv] (setItem ov iv v)
      release [v, ov, iv] []) := by intro _; rfl) : JG X F (.Subscript o i p) v s Φ :=
  fun as G H σ u Q c ve k => PG.sem (pg_sub (pe_sem X o) (pe_sem X i) (set_dictZ bx.hu) ha) (h as G H σ _ c fun v1 as1 G1 H1 e1 s1 c1 x1 ve1 h1 => h1 as1 G1 H1 σ _ c1 fun v2 as2 G2 H2 e2 s2 c2 x2 ve2 ⟨j, ks, es, kk, q1, q2, q3, q4, q5, q6⟩ => by
    subst q1
    obtain rfl := keyE_v q2 ve2
    obtain ⟨a, ha, rfl⟩ := x2.ve ve1
    rw [nth_eq] at q3
    obtain ⟨a', vs, g1, ⟨g2, g3, od, g4⟩, g5⟩ := c2.cells j _ _ q3
    rw [ha] at g1
    cases g1
    have hl := Paired.length g5
    have nA : a ∉ F.A0 := fun z => by
      obtain ⟨l, hl⟩ := List.getElem?_of_mem z
      have q := pre_get c2.pre hl
      obtain ⟨l1, e1⟩ := List.getElem?_eq_some_iff.mp q
      obtain ⟨l2, e2⟩ := List.getElem?_eq_some_iff.mp ha
      have := (List.getElem_inj c2.nd).mp (e1.trans e2.symm)
      have l3 := (List.getElem?_eq_some_iff.mp hl).1
      rw [c2.har] at l3
      omega
    have h0 : F.H0 a = none := (c2.fresh a (List.mem_of_getElem? ha)).resolve_left nA
    refine ⟨a, od, _, kk, rfl, rfl, g4, fun o' u' z => (by rw [hH, h0] at z; cases z), by rw [List.length_zip, g2, Nat.min_self, hl]; exact q5, fun od' => ?_⟩
    rw [putK_zip g2]
    exact k as2 G2 _ σ _ (c2.put (kd := .dct (dpK ks kk)) q3 ha ⟨dpV_len g2, dpK_nodup g3, od', upd_same⟩ (ves_dpV ((x1.trans x2).ve ve) g5)) (x1.trans x2) q6)
/-! ### sorted, sum, all -/
def rSortD : List V → Hp → VK → Prop := fun xs H Q => ∃ (a : Addr) (kvs : List (Key × V)) (ks : List Str), xs = [.ref a] ∧ Rd H a (.dK kvs) ∧ kvs.map (·.1) = ks.map Sum.inr ∧ ks.length < 64 ∧
    ∀ ys p, ys.Perm ks → sortedS ys = true → H p = none → Q (.ref p) (upd H p (.lst (ys.map V.str)))
theorem reps_strs {K : PySem.W.Frag} {G : Hp} : ∀ (ys : List Str), Reps K G (ys.map V.str) (ys.map D.str)
  | [] => .nil
  | y :: ys => .cons (.str y) (reps_strs ys)
theorem reps_ints {K : PySem.W.Frag} {G : Hp} : ∀ (ys : List Int), Reps K G (ys.map V.int) (ys.map D.int)
  | [] => .nil
  | y :: ys => .cons (.int y) (reps_ints ys)
/-- sorted of a dict's text keys: a new list -/
theorem je_sortedD {B : Nat} (bx : Bx X B) (g : GlB X "sorted") (h : JE X F a s fun e s1 => ∃ (ks : List Str) (es : List E), s1.node e = some (.dct (ks.map Sum.inr), es) ∧ ks.length < 64 ∧ ∀ ys, ys.Perm ks → sortedS ys = true → Φ (.d (.nd .lst (ys.map .str))) s1)
    (ns : NoStar a := by intro _ _; rfl) : JE X F (.Call (.Name "sorted" p) [a] [] pos) s Φ :=
  je_of (pe_callB (r := rSortD) (call_sortedD bx.calm) g.gl g.mg PyProof.Rows.boot_sorted (pa_cons (pe_sem X a) pa_nil (ns _ _)) (he := ns _ _)) fun as G H σ Q c k => h as G H σ _ c fun v as1 G1 H1 e1 s1 c1 x1 ve ⟨ks, es, h1, h2, h3⟩ => by
    obtain ⟨d, vs, rfl, ⟨n1, n2, od, n3⟩, ves⟩ := c1.node ve h1
    refine ⟨d, _, ks, rfl, .inr ⟨od, n3⟩, by rw [List.map_fst_zip (by omega)], h2, fun ys q hy hs hq => ?_⟩
    have sg : Same G1 (upd G1 q (.lst (ys.map V.str))) := same_new (c1.gnone hq)
    exact k _ as1 _ _ (.d (.nd .lst (ys.map .str))) s1 (c1.addG hq) (x1.trans ⟨List.prefix_refl _, sg⟩) (.nd (SqL.of upd_same) (reps_strs ys)) (h3 ys hy hs)
/-- sorted of a list of texts -/
theorem je_sortedS (g : GlB X "sorted") (h : JE X F a s fun e s1 => ∃ (ks : List Str), s1.node e = some (.lst, (ks.map D.str).map .d) ∧ ks.length < 64 ∧ ∀ ys, ys.Perm ks → sortedS ys = true → Φ (.d (.nd .lst (ys.map .str))) s1)
    (ns : NoStar a := by intro _ _; rfl) : JE X F (.Call (.Name "sorted" p) [a] [] pos) s Φ :=
  je_of (pe_callB (r := rSortedS X.K) cr_sortedS g.gl g.mg PyProof.Rows.boot_sorted (pa_cons (pe_sem X a) pa_nil (ns _ _)) (he := ns _ _)) fun as G H σ Q c k => h as G H σ _ c fun v as1 G1 H1 e1 s1 c1 x1 ve ⟨ks, h1, h2, h3⟩ => by
    obtain ⟨d, vs, rfl, n, ves⟩ := c1.node ve h1
    have hv : vs = ks.map V.str := by
      have := ves.reps
      clear h1 h2 h3 n ves
      induction ks generalizing vs with
      | nil => cases this; rfl
      | cons y ks ih => cases this with
        | cons a b => cases a; rw [ih _ b]; rfl
    subst hv
    refine ⟨d, ks, rfl, n, h2, fun ys q hy hs hq => ?_⟩
    have sg : Same G1 (upd G1 q (.lst (ys.map V.str))) := same_new (c1.gnone hq)
    exact k _ as1 _ _ (.d (.nd .lst (ys.map .str))) s1 (c1.addG hq) (x1.trans ⟨List.prefix_refl _, sg⟩) (.nd (SqL.of upd_same) (reps_strs ys)) (h3 ys hy hs)
theorem vs_ints {K : PySem.W.Frag} {G : Hp} : ∀ {ns : List Int} {vs : List V}, Reps K G vs (ns.map D.int) → vs = ns.map V.int
  | [], _, .nil => rfl
  | n :: ns, _, .cons a b => by cases a; rw [vs_ints b]; rfl
theorem vs_bls {K : PySem.W.Frag} {G : Hp} : ∀ {ns : List Bool} {vs : List V}, Reps K G vs (ns.map D.bl) → vs = ns.map V.bl
  | [], _, .nil => rfl
  | n :: ns, _, .cons a b => by cases a; rw [vs_bls b]; rfl
theorem je_sum {B : Nat} (bx : Bx X B) (g : GlB X "sum") (h : JE X F a s fun e s1 => ∃ ns : List Int, s1.node e = some (.lst, (ns.map D.int).map .d) ∧ Φ (.d (.int ns.sum)) s1) (ns : NoStar a := by intro _ _; rfl) : JE X F (.Call (.Name "sum" p) [a] [] pos) s Φ :=
  je_of (pe_callB (cr_sum bx.calm) g.gl g.mg PyProof.Rows.boot_sum (pa_cons (pe_sem X a) pa_nil (ns _ _)) (he := ns _ _)) fun as G H σ Q c k => h as G H σ _ c fun v as1 G1 H1 e1 s1 c1 x1 ve ⟨ms, h1, h2⟩ => by
    obtain ⟨d, vs, rfl, n, ves⟩ := c1.node ve h1
    obtain rfl := vs_ints ves.reps
    exact ⟨d, ms, rfl, n, k _ as1 G1 H1 _ s1 c1 x1 (Rep.int _) h2⟩
theorem je_all {B : Nat} (bx : Bx X B) (g : GlB X "all") (h : JE X F a s fun e s1 => ∃ bs : List Bool, s1.node e = some (.lst, (bs.map D.bl).map .d) ∧ Φ (.d (.bl (bs.all id))) s1) (ns : NoStar a := by intro _ _; rfl) : JE X F (.Call (.Name "all" p) [a] [] pos) s Φ :=
  je_of (pe_callB (cr_all bx.calm) g.gl g.mg PyProof.Rows.boot_all (pa_cons (pe_sem X a) pa_nil (ns _ _)) (he := ns _ _)) fun as G H σ Q c k => h as G H σ _ c fun v as1 G1 H1 e1 s1 c1 x1 ve ⟨ms, h1, h2⟩ => by
    obtain ⟨d, vs, rfl, n, ves⟩ := c1.node ve h1
    obtain rfl := vs_bls ves.reps
    exact ⟨d, ms, rfl, n, k _ as1 G1 H1 _ s1 c1 x1 (Rep.bl _) h2⟩
/-- tuple(a list): a new tuple -/
theorem jn_tupleL {Θ : Kd → List E → S → Prop} (g : GlB X "tuple") (h : JE X F a s fun e s1 => ∃ es, s1.node e = some (.lst, es) ∧ Θ .tup es s1) (ns : NoStar a := by intro _ _; rfl) : JN X F (.Call (.Name "tuple" p) [a] [] pos) s Θ := fun as G H σ Q c k =>
  PE.sem (pe_callTy call_tuple_of g.gl g.mg PyProof.Rows.boot_tuple (pa_cons (pe_sem X a) pa_nil (ns _ _)) (he := ns _ _)) (h as G H σ _ c fun v as1 G1 H1 e1 s1 c1 x1 ve ⟨es, h1, h2⟩ => by
    obtain ⟨d, vs, rfl, n, ves⟩ := c1.node ve h1
    exact ⟨d, vs, rfl, .inl ⟨n, fun q hq => k q vs as1 G1 H1 .tup es s1 c1 x1 hq (fun ks z => by cases z) ves h2⟩⟩)
theorem jn_listS {Θ : Kd → List E → S → Prop} (g : GlB X "list") (h : JE X F a s fun e s1 => ∃ kd es, s1.node e = some (kd, es) ∧ (kd = .lst ∨ kd = .tup) ∧ Θ .lst es s1) (ns : NoStar a := by intro _ _; rfl) : JN X F (.Call (.Name "list" p) [a] [] pos) s Θ := fun as G H σ Q c k =>
  PE.sem (pe_callTy call_list_of g.gl g.mg PyProof.Rows.boot_list (pa_cons (pe_sem X a) pa_nil (ns _ _)) (he := ns _ _)) (h as G H σ _ c fun v as1 G1 H1 e1 s1 c1 x1 ve ⟨kd, es, h1, hk, h2⟩ => by
    obtain ⟨d, vs, rfl, n, ves⟩ := c1.node ve h1
    refine ⟨d, vs, rfl, ?_, fun q hq => k q vs as1 G1 H1 .lst es s1 c1 x1 hq (fun ks z => by cases z) ves h2⟩
    rcases hk with rfl | rfl
    · exact .inl n
    · exact .inr n)
/-! ### slices -/
def JO (X : Cx) (F : Fr) (o : Option Expr) (s : S) (Φ : Option Int → S → Prop) : Prop := match o with
  | none => Φ none s
  | some e => JE X F e s fun e1 s1 => ∃ i, e1 = .d (.int i) ∧ Φ (some i) s1
def tO (X : Cx) (o : Option Expr) : TO := match o with
  | none => tNoPart
  | some e => tPart (semE X e)
theorem po_sem (X : Cx) : ∀ o, PO X o (tO X o)
  | none => po_none
  | some e => po_some (pe_sem X e)
theorem jo_run {o : Option Expr} {Φ : Option Int → S → Prop} {as : List Addr} {G H : Hp} {σ : L2.St} {Q : Option Int → Hp → Prop} (h : JO X F o s Φ) (c : Cz X F as G H σ s) (k : ∀ i as' G' H' s', Cz X F as' G' H' σ s' → Ext as as' G G' → Φ i s' → Q i H') : tO X o σ H Q := by
  match o, h with
  | none, h => exact k none as G H s c (Ext.refl _ _) h
  | some e, h =>
    refine h as G H σ _ c fun v as1 G1 H1 e1 s1 c1 x1 ve ⟨i, q1, q2⟩ => ?_
    subst q1
    cases ve
    exact ⟨i, rfl, k (some i) as1 G1 H1 s1 c1 x1 q2⟩
theorem je_sliceS {lo hi : Option Expr} {p2 : Pos} (h : JE X F a s fun e s1 => JO X F lo s1 fun l s2 => JO X F hi s2 fun u s3 => ∃ z, e = .d (.str z) ∧ z.length ≤ sizeLine ∧ Φ (.d (.str (cutS z l u))) s3) : JE X F (.Subscript a (.Slice lo hi none p2) pos) s Φ :=
  je_of (pe_slice sl_str (pe_sem X a) (po_sem X lo) (po_sem X hi)) fun as G H σ Q c k => h as G H σ _ c fun v as1 G1 H1 e1 s1 c1 x1 ve h1 => jo_run h1 c1 fun l as2 G2 H2 s2 c2 x2 h2 => jo_run h2 c2 fun u as3 G3 H3 s3 c3 x3 ⟨z, q1, q2, q3⟩ => by
    subst q1
    cases ve
    exact ⟨z, rfl, q2, k _ as3 G3 H3 _ s3 c3 ((x1.trans x2).trans x3) (Rep.str _) q3⟩
end
end DL
namespace DL
open PySem PySem.Spec PyProof.Rows L2
variable {X : Cx} {F : Fr} {s : S}
section
variable {as as1 as' : List Addr} {G G1 G' H H1 H' : Hp} {σ : L2.St}
/-- what stands and is no owned cell is frozen -/
theorem Cz.frzG (c : Cz X F as G H σ s) {b : Addr} {o : HO} (ho : H b = some o) (gn : G b = none) (hb : b ∉ as) (h0 : F.H0 b = none) : Cz X F as (upd G b o) H σ s := by
  have sg : Same G (upd G b o) := same_new gn
  refine ⟨fun d u q => ?_, c.base.trans sg, fun d q1 q2 => ?_, c.frame, c.len, c.pre, c.nd, fun k a kd es q1 q2 => ?_, c.fresh, c.there, fun k kd es q => ?_, fun i e q => ?_, c.slen, c.har⟩
  · by_cases hd : d = b
    · subst hd; rw [upd_same] at q; rw [ho, ← q]
    · rw [upd_ne hd] at q; exact c.sub d u q
  · have hd : d ≠ b := fun z => by rw [z] at q2; exact q2 h0
    rw [upd_ne hd]; exact c.new d q1 q2
  · have hd : a ≠ b := fun z => hb (by rw [← z]; exact List.mem_of_getElem? q1)
    rw [upd_ne hd]; exact c.own k a kd es q1 q2
  · obtain ⟨a, vs, w1, w2, w3⟩ := c.cells k kd es q
    exact ⟨a, vs, w1, w2, w3.mono (List.prefix_refl _) sg⟩
  · obtain ⟨v, w1, w2⟩ := c.slots i e q
    exact ⟨v, w1, w2.mono (List.prefix_refl _) sg⟩
theorem VE.lt {K : PySem.W.Frag} {v : V} : ∀ {e : E}, VE K G as v e → e.lt as.length = true
  | .d _, _ => rfl
  | .r k, ⟨a, h, _⟩ => by
    have := (List.getElem?_eq_some_iff.mp h).1
    simp [E.lt, this]
theorem Cz.popFrz (c1 : Cz X F as1 G1 H1 σ s) {kd : Kd} {ds : List D} (c' : Cz X F as' G' H' σ (s.push kd (ds.map .d))) (x : Ext as1 as' G1 G') :
    ∃ G2, Cz X F as1 G2 H' σ s ∧ Same G' G2 ∧ ∀ q, as'[s.ce.length]? = some q → Rep X.K G2 (.ref q) (.nd kd ds) := by
  have w : Wk (s.push kd (ds.map .d)) s := ⟨fun i e h => h, rfl, ⟨_, rfl⟩, rfl, by rw [← c1.har, ← c1.len]; exact c1.pre.length_le⟩
  have lt1 : ∀ (i : Nat) (e : E), s.sl[i]? = some (some e) → e.lt s.ce.length = true := fun i e h => by
    obtain ⟨v, _, q⟩ := c1.slots i e h
    rw [← c1.len]; exact q.lt
  have lt2 : ∀ (k : Nat) (kd : Kd) (es : List E), s.ce[k]? = some (.nd kd es) → ∀ e ∈ es, E.lt s.ce.length e = true := fun k kd es h e he => by
    obtain ⟨a, vs, _, _, q⟩ := c1.cells k kd es h
    obtain ⟨j, hj⟩ := List.getElem?_of_mem he
    obtain ⟨v, _, q2⟩ := q.get' hj
    rw [← c1.len]; exact q2.lt
  have c2 := c'.weak w lt1 lt2
  have ea : as'.take s.ce.length = as1 := by
    obtain ⟨t, rfl⟩ := x.pre
    rw [← c1.len, List.take_left]
  rw [ea] at c2
  obtain ⟨q, hq⟩ : ∃ q, as'[s.ce.length]? = some q := by
    have : s.ce.length < as'.length := by
      rw [c'.len]
      show _ < (s.ce ++ [Cell.nd kd (ds.map .d)]).length
      simp
    exact ⟨_, List.getElem?_eq_getElem this⟩
  have hce : (s.push kd (ds.map .d)).ce[s.ce.length]? = some (.nd kd (ds.map .d)) := by
    show (s.ce ++ [Cell.nd kd (ds.map .d)])[s.ce.length]? = _
    rw [List.getElem?_append_right (Nat.le_refl _)]; simp
  obtain ⟨q', vs, g1, g2, g3⟩ := c'.cells _ _ _ hce
  rw [hq] at g1
  cases g1
  obtain ⟨o, ho⟩ := g2.some
  have gn : G' q = none := c'.own _ _ _ _ hq hce
  have nin : q ∉ as1 := fun z => by
    obtain ⟨j, hj⟩ := List.getElem?_of_mem z
    have h1 := pre_get x.pre hj
    obtain ⟨l1, e1⟩ := List.getElem?_eq_some_iff.mp h1
    obtain ⟨l2, e2⟩ := List.getElem?_eq_some_iff.mp hq
    have e3 := (List.getElem_inj c'.nd).mp (e1.trans e2.symm)
    have l3 := (List.getElem?_eq_some_iff.mp hj).1
    rw [c1.len] at l3
    omega
  have h0 : F.H0 q = none := (c'.fresh q (List.mem_of_getElem? hq)).resolve_left fun z => nin (c1.pre.subset z)
  refine ⟨upd G' q o, c2.frzG ho gn nin h0, same_new gn, fun q2 hq2 => ?_⟩
  rw [hq] at hq2
  cases hq2
  have cg : CellAt (upd G' q o) q vs kd := g2.keep fun u z => by rw [upd_same, ← ho, z]
  exact .nd cg.node (g3.reps.mono (same_new gn))
end
section
variable {e a b c elt iter kx vx : Expr} {es ifs : List Expr} {scope : Scope} {own : List (Str × Nat)} {pos p : Pos} {x : Str} {j B : Nat} {Φ : E → S → Prop}
/-- what an expression has made last, frozen -/
theorem je_pop {kd : Kd} (h : JE X F e s fun e1 s1 => ∃ ds, e1 = .r s.ce.length ∧ s1 = s.push kd (ds.map .d) ∧ Φ (.d (.nd kd ds)) s) : JE X F e s Φ := fun as G H σ Q c k =>
  h as G H σ Q c fun v as1 G1 H1 e1 s1 c1 x1 ve ⟨ds, q1, q2, q3⟩ => by
    subst q1 q2
    obtain ⟨G2, c2, sg, rep⟩ := c.popFrz c1 x1
    obtain ⟨q, hq, rfl⟩ := ve
    exact k _ as G2 H1 _ s c2 ⟨List.prefix_refl _, x1.sub.trans sg⟩ (rep q hq) q3
/-- a call whose new answer is frozen at once -/
def RtΦd (Φ : E → S → Prop) (s : S) : Rt → Prop
  | .dat x => Φ (.d x) s
  | .new kd ds => Φ (.d (.nd kd ds)) s
theorem rtΦd_dat {d : D} (h : Φ (.d d) s) : RtΦd Φ s (.dat d) := h
theorem rtΦd_new {kd : Kd} {ds : List D} (h : Φ (.d (.nd kd ds)) s) : RtΦd Φ s (.new kd ds) := h
theorem frz_new {as1 : List Addr} {G' H' H1 : Hp} {σ : L2.St} {s1 : S} {v : V} {kd : Kd} {ds' : List D} (c2 : Cz X F as1 G' H' σ s1) (hn : ∀ b, H1 b = none → b ∉ as1 ∧ F.H0 b = none) (q5 : RtAt X.K G' H' H1 v (.new kd ds')) : ∃ G2, Cz X F as1 G2 H' σ s1 ∧ Same G' G2 ∧ Rep X.K G2 v (.nd kd ds') := by
  obtain ⟨b, ws, rfl, w1, w2, w3, w4⟩ := q5
  obtain ⟨o, ho⟩ := w3.some
  obtain ⟨n1, n2⟩ := hn b w1
  have cg : CellAt (upd G' b o) b ws kd := w3.keep fun u z => by rw [upd_same, ← ho, z]
  exact ⟨upd G' b o, c2.frzG ho w2 n1 n2, same_new w2, .nd cg.node (w4.mono (same_new w2))⟩
theorem je_callPd {R : RP} {k : Nat} (cb : CbP X x k R) (bx : Bx X B) (hB : k ≤ B)
    (h : JA X F (a :: es) s fun vs s1 => ∃ ds, dsOf vs = some ds ∧ R ds (RtΦd Φ s1)) (hdb : (x == ("__debug__" : Str)) = false := by decide) (he : starEach (a :: es) X.env = (false, eval a X.env) :: starEach es X.env := by rfl)
    (hpl : (backTo pos (starEach es X.env)).any (·.1) = false := by rfl) : JE X F (.Call (.Name x p) (a :: es) [] pos) s Φ := by
  obtain ⟨f, fd, ps, h1, h2, h3, h4⟩ := cb.ex
  refine je_of (pe_call h4 (bx.room.mono hB) cb.gl h1 h2 h3 .nil pass0 (pa_sem X _) hdb he hpl) fun as G H σ Q c kk => h as G H σ _ c fun vs as1 G1 H1 es1 s1 c1 x1 ves ⟨ds, e1, hR⟩ => ?_
  rw [List.append_nil]
  rw [dsOf_eq e1] at ves
  refine ⟨G1, ds, c1.sub, ves.reps, cb.mono ds _ _ (fun r hr v G' H' q1 q2 q3 q4 q5 => ?_) hR⟩
  have c2 := c1.call q1 q2 q3 q4
  have x2 : Ext as1 as1 G1 G' := ⟨List.prefix_refl _, q2⟩
  cases r with
  | dat y => exact kk v as1 G' H' (.d y) s1 c2 (x1.trans x2) q5 hr
  | new kd ds' =>
    obtain ⟨G2, c3, sg, rep⟩ := frz_new c2 (fun b hb => ⟨c1.notin hb, c1.h0none hb⟩) q5
    exact kk v as1 G2 H' _ s1 c3 (x1.trans ⟨List.prefix_refl _, q2.trans sg⟩) rep hr
/-! ### pure comprehensions -/
/-- the state in the block -/
def S.blk (s : S) (vs : List Nat) (acc : List E) (j : Nat) (v : E) : S := ((s.wipe vs).push .lst acc).set j v
theorem set_wipe {s : S} {vs : List Nat} {j : Nat} {v : E} (hj : j ∈ vs) : (s.set j v).wipe vs = s.wipe vs := by
  have h : wipeN (setN s.sl j (some v)) vs = wipeN s.sl vs := by
    apply List.ext_getElem?
    intro i
    by_cases hi : i ∈ vs
    · have key : ∀ {l : List (Option E)} {vs : List Nat}, i ∈ vs → (wipeN l vs)[i]? = if i < l.length then some none else none := by
        intro l vs h
        induction vs with
        | nil => cases h
        | cons v vs ih =>
          unfold wipeN
          rw [setN_eq]
          by_cases hv : v = i
          · subst hv
            by_cases hl : v < l.length
            · rw [List.getElem?_set_self (by rw [wipeN_len]; exact hl), if_pos hl]
            · rw [List.getElem?_eq_none (by rw [List.length_set, wipeN_len]; omega), if_neg hl]
          · rw [List.getElem?_set_ne hv]
            exact ih ((List.mem_cons.mp h).resolve_left fun z => hv z.symm)
      rw [key hi, key hi, setN_eq, List.length_set]
    · have key : ∀ {l : List (Option E)} {vs : List Nat}, i ∉ vs → (wipeN l vs)[i]? = l[i]? := by
        intro l vs h
        induction vs with
        | nil => rfl
        | cons v vs ih =>
          unfold wipeN
          rw [setN_eq, List.getElem?_set_ne (fun z => h (by rw [z]; exact List.mem_cons_self)), ih fun z => h (List.mem_cons_of_mem _ z)]
      rw [key hi, key hi, setN_eq, List.getElem?_set_ne (fun z => hi (by rw [← z]; exact hj))]
  show (⟨wipeN (setN s.sl j (some v)) vs, s.ce, s.ar⟩ : S) = ⟨wipeN s.sl vs, s.ce, s.ar⟩
  rw [h]
theorem wipe_wipe {s : S} {vs : List Nat} : (s.wipe vs).wipe vs = s.wipe vs := by
  have h : wipeN (wipeN s.sl vs) vs = wipeN s.sl vs := by
    apply List.ext_getElem?
    intro i
    by_cases hi : i ∈ vs
    · have key : ∀ {l : List (Option E)} {vs : List Nat}, i ∈ vs → (wipeN l vs)[i]? = if i < l.length then some none else none := by
        intro l vs h
        induction vs with
        | nil => cases h
        | cons v vs ih =>
          unfold wipeN
          rw [setN_eq]
          by_cases hv : v = i
          · subst hv
            by_cases hl : v < l.length
            · rw [List.getElem?_set_self (by rw [wipeN_len]; exact hl), if_pos hl]
            · rw [List.getElem?_eq_none (by rw [List.length_set, wipeN_len]; omega), if_neg hl]
          · rw [List.getElem?_set_ne hv]
            exact ih ((List.mem_cons.mp h).resolve_left fun z => hv z.symm)
      rw [key hi, key hi, wipeN_len]
    · have key : ∀ {l : List (Option E)} {vs : List Nat}, i ∉ vs → (wipeN l vs)[i]? = l[i]? := by
        intro l vs h
        induction vs with
        | nil => rfl
        | cons v vs ih =>
          unfold wipeN
          rw [setN_eq, List.getElem?_set_ne (fun z => h (by rw [z]; exact List.mem_cons_self)), ih fun z => h (List.mem_cons_of_mem _ z)]
      rw [key hi]
  show (⟨wipeN (wipeN s.sl vs) vs, s.ce, s.ar⟩ : S) = ⟨wipeN s.sl vs, s.ce, s.ar⟩
  rw [h]
theorem lc_pure (hj : j ∈ own.map (·.2)) {n : Nat} {it : Nat → E → Prop} {s1 : S} {f : Nat → D} (hn : n ≤ 16000000)
    (ht : ∀ i v acc, i < n → it i v → ∀ Y, IsBlk X scope Y → JE Y F elt (s1.blk (own.map (·.2)) acc j v) fun y s3 => y = .d (f i) ∧ s3 = s1.blk (own.map (·.2)) acc j v) :
    let In : Nat → List E → S → Prop := fun i acc s' => acc = ((List.range i).map f).map .d ∧ s' = (s1.wipe (own.map (·.2))).push .lst acc
    In 0 [] ((s1.wipe (own.map (·.2))).push .lst []) ∧
      (∀ i v acc s', i < n → it i v → In i acc s' → nth s'.ce s1.ce.length = some (.nd .lst acc) ∧ ∀ Y, IsBlk X scope Y → JTs Y F ([] : List Expr) (s'.set j v) fun b s2 =>
        if b = true then ∀ Y2, IsBlk X scope Y2 → JE Y2 F elt s2 fun y s3 => nth s3.ce s1.ce.length = some (.nd .lst acc) ∧ acc.length < sizeLine ∧ In (i + 1) (acc ++ [y]) ((s3.put s1.ce.length .lst (acc ++ [y])).wipe (own.map (·.2)))
        else In (i + 1) acc (s2.wipe (own.map (·.2)))) := by
  intro In
  refine ⟨⟨rfl, rfl⟩, ?_⟩
  rintro i v acc s' hi hv ⟨rfl, rfl⟩
  have hce : ∀ (t : S) (l : List E), (t.push .lst l).ce = t.ce ++ [Cell.nd .lst l] := fun _ _ => rfl
  have hnth : nth ((s1.wipe (own.map (·.2))).push .lst (((List.range i).map f).map .d)).ce s1.ce.length = some (.nd .lst (((List.range i).map f).map .d)) := by
    rw [nth_eq, hce]
    show (s1.ce ++ [_])[s1.ce.length]? = _
    rw [List.getElem?_append_right (Nat.le_refl _)]
    simp
  refine ⟨hnth, fun Y hY => ?_⟩
  dsimp only [JTs]
  refine L2.iteT ?_
  refine fun Y2 hY2 => (ht i v _ hi hv Y2 hY2).mono fun y s3 ⟨e1, e2⟩ => ?_
  subst e1 e2
  refine ⟨hnth, by simp; rw [sizeLine_eq]; omega, ?_, ?_⟩
  · rw [List.range_succ]; simp
  · have hput : (s1.blk (own.map (·.2)) (((List.range i).map f).map .d) j v).put s1.ce.length .lst ((((List.range i).map f).map .d) ++ [.d (f i)]) = ((s1.wipe (own.map (·.2))).push .lst ((((List.range i).map f).map .d) ++ [.d (f i)])).set j v := by
      show (⟨_, setN (s1.ce ++ [Cell.nd .lst _]) s1.ce.length _, _⟩ : S) = ⟨_, s1.ce ++ [_], _⟩
      rw [setN_eq, List.set_append_right _ _ (Nat.le_refl _)]
      simp
      exact ⟨rfl, rfl⟩
    rw [hput, set_wipe hj]
    show (⟨wipeN (wipeN s1.sl _) _, _, _⟩ : S) = ⟨wipeN s1.sl _, _, _⟩
    have := congrArg S.sl (wipe_wipe (s := s1) (vs := own.map (·.2)))
    have this : wipeN (wipeN s1.sl (own.map (·.2))) (own.map (·.2)) = wipeN s1.sl (own.map (·.2)) := this
    rw [this]
    rfl
/-- [elt for x in iter], the elements pure: the list, frozen -/
theorem je_lcP (bx : Bx X B) (ok : BlkOk X.N X.env.scope scope own) (hj : j ∈ own.map (·.2)) (hn : ∀ Y, IsBlk X scope Y → NmW Y j x)
    (h : JI X F (.Name x p) iter s fun n it s1 => s1 = s ∧ n ≤ 16000000 ∧ ∃ f : Nat → D, (∀ i v acc, i < n → it i v → ∀ Y, IsBlk X scope Y → JE Y F elt (s.blk (own.map (·.2)) acc j v) fun y s3 => y = .d (f i) ∧ s3 = s.blk (own.map (·.2)) acc j v) ∧ Φ (.d (.nd .lst ((List.range n).map f))) s)
    (hs : ∀ x, foldedSetIterable iter X.env x = pure x := by intro _; rfl) : JE X F (.ListComp elt [⟨.Name x p, iter, [], 0⟩] scope pos) s Φ := by
  refine je_pop (kd := .lst) (je_lc bx ok hj hn (fun as G H σ R c k => h as G H σ R c fun J as1 G1 H1 s1 n it c1 x1 okJ ⟨q1, q2, f, q3, q4⟩ => ?_) hs)
  subst q1
  refine k J as1 G1 H1 s1 n it c1 x1 okJ ⟨_, (lc_pure hj q2 q3).1, (lc_pure hj q2 q3).2, ?_⟩
  rintro acc s' ⟨rfl, rfl⟩
  exact ⟨_, rfl, rfl, q4⟩
end
end DL
namespace DL
open PySem PySem.Spec PyProof.Rows L2
variable {X : Cx} {F : Fr} {s : S}
/-! ### a frame within a frame -/
section
variable {as as' : List Addr} {G G' H H' : Hp} {σ σ' : L2.St}
def S.in (s : S) : S := ⟨s.sl, s.ce, s.ce.length⟩
theorem Cz.enter (c : Cz X F as G H σ s) : Cz X ⟨G, H, as⟩ as G H σ s.in :=
  ⟨c.sub, Same.refl _, fun b h _ => h, fun b o h _ => h, c.len, List.prefix_refl _, c.nd, c.own, fun a h => .inl h, c.there, c.cells, c.slots, c.slen, c.len⟩
theorem Cz.leave {s' : S} (c : Cz X F as G H σ s) (c' : Cz X ⟨G, H, as⟩ as' G' H' σ' s') : Cz X F as' G' H' σ' ⟨s'.sl, s'.ce, s.ar⟩ := by
  refine ⟨c'.sub, c.base.trans c'.base, fun b h1 h2 => ?_, fun b o h1 h2 => ?_, c'.len, c.pre.trans c'.pre, c'.nd, c'.own, fun a ha => ?_, c'.there, c'.cells, c'.slots, c'.slen, c.har⟩
  · refine c'.new b (c.new b h1 h2) fun z => ?_
    by_cases hA : b ∈ F.A0
    · exact c.there b (c.pre.subset hA) z
    · cases q : F.H0 b with
      | none => exact h2 q
      | some o => have := c.frame b o q hA; rw [show H b = none from z] at this; cases this
  · refine c'.frame b o (c.frame b o h1 h2) fun z => ?_
    rcases c.fresh b z with q | q
    · exact h2 q
    · rw [q] at h1; cases h1
  · rcases c'.fresh a ha with z | z
    · exact c.fresh a z
    · exact .inr (c.h0none z)
end
/-! ### a dict comprehension, pure -/
section
variable {elt iter kx vx : Expr} {scope : Scope} {own : List (Str × Nat)} {pos p : Pos} {x : Str} {j B : Nat} {Φ : E → S → Prop}
def dcF (kf : Nat → Key) (f : Nat → D) : Nat → List Key × List D
  | 0 => ([], [])
  | n + 1 => (dpK (dcF kf f n).1 (kf n), dpV (dcF kf f n).1 (dcF kf f n).2 (kf n) (f n))
theorem dcF_ok (kf : Nat → Key) (f : Nat → D) : ∀ n, (dcF kf f n).1.length = (dcF kf f n).2.length ∧ (dcF kf f n).1.Nodup ∧ (dcF kf f n).1.length ≤ n
  | 0 => ⟨rfl, List.nodup_nil, Nat.le_refl _⟩
  | n + 1 => by
    obtain ⟨h1, h2, h3⟩ := dcF_ok kf f n
    refine ⟨dpV_len h1, dpK_nodup h2, ?_⟩
    show (dpK (dcF kf f n).1 (kf n)).length ≤ n + 1
    unfold dpK
    split
    · omega
    · simp; omega
theorem dcF_keys (kf : Nat → Key) (f : Nat → D) : ∀ n, ∀ k ∈ (dcF kf f n).1, ∃ i, i < n ∧ k = kf i
  | 0, k, h => by cases h
  | n + 1, k, h => by
    have h : k ∈ dpK (dcF kf f n).1 (kf n) := h
    unfold dpK at h
    split at h
    · obtain ⟨i, h1, h2⟩ := dcF_keys kf f n k h
      exact ⟨i, by omega, h2⟩
    · rcases List.mem_append.mp h with h | h
      · obtain ⟨i, h1, h2⟩ := dcF_keys kf f n k h
        exact ⟨i, by omega, h2⟩
      · exact ⟨n, by omega, by simpa using h⟩
/-- the keys all different -/
theorem dcF_inj {kf : Nat → Key} {f : Nat → D} : ∀ {n : Nat}, (∀ i j, i < j → j < n → kf i ≠ kf j) → dcF kf f n = ((List.range n).map kf, (List.range n).map f)
  | 0, _ => rfl
  | n + 1, h => by
    have ih := dcF_inj (f := f) (n := n) fun i j h1 h2 => h i j h1 (by omega)
    have hm : ¬ memK (kf n) (dcF kf f n).1 = true := fun z => by
      obtain ⟨i, h1, h2⟩ := dcF_keys kf f n _ (memK_iff.mp z)
      exact h i n h1 (by omega) h2.symm
    show (dpK _ _, dpV _ _ _ _) = _
    unfold dpK dpV
    rw [if_neg hm, if_neg hm, ih, List.range_succ, List.map_append, List.map_append]
    rfl
/-- what the block asks -/
def Pure1 (X : Cx) (scope : Scope) (e : Expr) (s : S) (d : D) : Prop := ∀ Y F, IsBlk X scope Y → JE Y F e s fun y s3 => y = .d d ∧ s3 = s
def S.dblk (s : S) (vs : List Nat) (j : Nat) (v : E) : S := ((s.wipe vs).set j v).in
def DcI (X : Cx) (F : Fr) (tg iter kx vx : Expr) (scope : Scope) (vs : List Nat) (j : Nat) (s : S) (Φ : List Key → List D → Prop) : Prop :=
  JI X F tg iter s fun n it s1 => s1 = s ∧ n ≤ 16000000 ∧ ∃ (kf : Nat → Key) (f : Nat → D), (∀ i v, i < n → it i v → Pure1 X scope kx (s.dblk vs j v) (kD (kf i)) ∧ Pure1 X scope vx (s.dblk vs j v) (f i)) ∧ Φ (dcF kf f n).1 (dcF kf f n).2
theorem rep_kV {K : PySem.W.Frag} {G : Hp} {v : V} : ∀ {k : Key}, Rep K G v (kD k) → v = kV k
  | .inl i, h => by cases h; rfl
  | .inr x, h => by cases h; rfl
theorem dpV_map {α β : Type} (g : α → β) {ks : List Key} {es : List α} {k : Key} {e : α} : dpV ks (es.map g) k (g e) = (dpV ks es k e).map g := by
  unfold dpV
  split
  · rename_i h
    clear h
    induction ks generalizing es with
    | nil => rfl
    | cons k' ks ih =>
      cases es with
      | nil => rfl
      | cons a es =>
        rw [List.map_cons, List.zip_cons_cons, List.zip_cons_cons, List.map_cons, List.map_cons, List.map_cons, ih]
        by_cases q : k' = k
        · simp only [q, if_true]
        · simp only [q, if_false]
  · rw [List.map_append]; rfl
theorem reps_dpV {K : PySem.W.Frag} {G : Hp} {k : Key} {v : V} {d : D} (r : Rep K G v d) {ks : List Key} {vs : List V} {ds : List D} (h : Reps K G vs ds) : Reps K G (dpV ks vs k v) (dpV ks ds k d) := by
  refine VEs.reps (as := []) ?_
  rw [← dpV_map]
  exact ves_dpV (as := []) (e := .d d) r (VEs.ofReps h)
theorem dc_read {Φ : List Key → List D → Prop} (hj : j ∈ own.map (·.2)) (h : DcI X F (.Name x p) iter kx vx scope (own.map (·.2)) j s Φ) :
    ∀ as G H σ (Q : VK), Cz X F as G H σ s → (∀ D as' G' H' vs ks ds, Cz X F as' G' H' σ s → Ext as as' G G' → H' D = some (.dK (ks.zip vs)) → G' D = none → D ∉ as' → F.H0 D = none → Reps X.K G' vs ds → ks.length = vs.length → ks.Nodup → Φ ks ds → Q (.ref D) H') →
      tDc (semI X (.Name x p) iter) (gName j) (ttB X scope []) (teB X scope kx) (teB X scope vx) (own.map (·.2)) σ H Q := by
  refine fun as G H σ Q c k => h as G H σ _ c fun J as1 G1 H1 s1 n it c1 x1 okJ ⟨q1, q2, kf, f, q3, q4⟩ => ?_
  subst q1
  intro D hD
  have gD := c1.gnone hD
  have nD := c1.notin hD
  have hD0 := c1.h0none hD
  -- the state of a turn
  have keep : ∀ {as' : List Addr} {G' H' : Hp} {σ' : L2.St} {s' : S} {o : HO}, Cz X F as' G' H' σ' s' → G' D = none → D ∉ as' → F.H0 D = none → Cz X F as' G' (upd H' D o) σ' s' := fun {as' G' H' σ' s' o} c' g' n' h0 => by
    refine ⟨fun b u q => ?_, c'.base, c'.new, fun b u w1 w2 => ?_, c'.len, c'.pre, c'.nd, c'.own, c'.fresh, fun a ha => ?_, fun l kd es q => ?_, c'.slots, c'.slen, c'.har⟩
    · rw [upd_ne (ne_of_none q g')]; exact c'.sub b u q
    · rw [upd_ne (ne_of_none w1 h0)]; exact c'.frame b u w1 w2
    · rw [upd_ne (fun z => n' (by rw [← z]; exact ha))]; exact c'.there a ha
    · obtain ⟨a, ws, w1, w2, w3⟩ := c'.cells l kd es q
      exact ⟨a, ws, w1, w2.keep fun u z => by rw [upd_ne (fun z => n' (by rw [← z]; exact List.mem_of_getElem? w1))]; exact z, w3⟩
  have c1' := keep (o := .dK []) (c1.wipe (own.map (·.2))) gD nD hD0
  refine ⟨fun i m H' => m = n - i ∧ i ≤ n ∧ ∃ as' G' vs, Cz X F as' G' H' (wipe σ (own.map (·.2))) (s1.wipe (own.map (·.2))) ∧ Ext as1 as' G1 G' ∧ H' D = some (.dK ((dcF kf f i).1.zip vs)) ∧ G' D = none ∧ D ∉ as' ∧ Reps X.K G' vs (dcF kf f i).2, ⟨n, by simp, Nat.zero_le _, as1, G1, [], c1', Ext.refl _ _, upd_same, gD, nD, .nil⟩, ?_⟩
  rintro i m H' ⟨rfl, hi, as', G', vs, c', x', hd, g', n', rs⟩
  by_cases hlt : i < n
  · refine .inr ⟨okJ.go i as' G' H' _ _ hlt c' x'.sub, fun H2 => ∃ as' G' vs, Cz X F as' G' H2 (wipe σ (own.map (·.2))) (s1.wipe (own.map (·.2))) ∧ Ext as1 as' G1 G' ∧ H2 D = some (.dK ((dcF kf f (i + 1)).1.zip vs)) ∧ G' D = none ∧ D ∉ as' ∧ Reps X.K G' vs (dcF kf f (i + 1)).2, fun H2 ⟨as2, G2, vs2, w⟩ => ⟨n - (i + 1), by omega, rfl, hlt, as2, G2, vs2, w⟩, fun v H2 y => ?_⟩
    obtain ⟨G2, e, c2, ⟨x2, gk⟩, ve, hv⟩ := okJ.yld i as' G' H' _ _ v H2 hlt c' x'.sub y
    have hd2 : H2 D = _ := okJ.keep i as' G' H' _ _ v H2 hlt c' x'.sub y D _ hd
    have g2 : G2 D = none := gk D (by rw [hd]; exact fun z => nomatch z) g'
    obtain ⟨t1, t2⟩ := q3 i e hlt hv
    have c3 := c2.set (i := j) ve
    have ws : wipe ((wipe σ (own.map (·.2))).set j (some v)) (own.map (·.2)) = wipe σ (own.map (·.2)) := wipe_same (by rw [List.length_set, wipe_length]) fun l hl => by
      rw [List.getElem?_set_ne (fun z => hl (by rw [← z]; exact hj)), wipe_out' hl]
    refine ⟨ws, fun Y hY pins st I => pts_nil.run pins st _ _ _ I ?_⟩
    simp only [if_true]
    have c4 := c3.enter
    refine fun Y2 hY2 => t1 Y2 _ hY2 as' G2 H2 _ _ (cz_blk hY2 c4) fun y as5 G5 H5 y' s5 c5 x5 ve5 ⟨w1, w2⟩ => ?_
    subst w1 w2
    have ve5 := rep_kV ve5
    subst ve5
    have c5 := cz_ublk hY2 c5
    have g5 : G5 D = none := c5.new D g2 (by show H2 D ≠ none; rw [hd2]; exact fun z => nomatch z)
    have d5 : H5 D = _ := c5.frame D _ hd2 n'
    have n5 : D ∉ as5 := fun z => by
      rcases c5.fresh D z with z | z
      · exact n' z
      · rw [show H2 D = none from z] at hd2; cases hd2
    have c5 := c3.leave c5
    refine fun Y3 hY3 => t2 Y3 _ hY3 as5 G5 H5 _ _ (cz_blk hY3 c5.enter) fun y as6 G6 H6 y' s6 c6 x6 ve6 ⟨w1, w2⟩ => ?_
    subst w1 w2
    have ve6 : Rep Y3.K G6 y (f i) := ve6
    rw [hY3.K] at ve6
    have c6 := cz_ublk hY3 c6
    have g6 : G6 D = none := c6.new D g5 (by show H5 D ≠ none; rw [d5]; exact fun z => nomatch z)
    have d6 : H6 D = _ := c6.frame D _ d5 n5
    have n6 : D ∉ as6 := fun z => by
      rcases c6.fresh D z with z | z
      · exact n5 z
      · rw [show H5 D = none from z] at d5; cases d5
    have c6 := (c5.leave c6).wipe (own.map (·.2))
    rw [ws] at c6
    have es : (S.wipe ⟨(s1.dblk (own.map (·.2)) j e).sl, (s1.dblk (own.map (·.2)) j e).ce, s1.ar⟩ (own.map (·.2))) = s1.wipe (own.map (·.2)) := by
      show (((s1.wipe (own.map (·.2))).set j e).wipe (own.map (·.2))) = _
      rw [set_wipe hj, wipe_wipe]
    have c6 : Cz X F as6 G6 H6 (wipe σ (own.map (·.2))) (s1.wipe (own.map (·.2))) := es ▸ c6
    obtain ⟨l1, l2, l3⟩ := dcF_ok kf f i
    have ll : (dcF kf f i).1.length = vs.length := by rw [l1, rs.length]
    refine ⟨_, kf i, rfl, d6, ?_, as6, G6, dpV (dcF kf f i).1 vs (kf i) y, keep c6 g6 n6 hD0, ?_, ?_, g6, n6, ?_⟩
    · rw [List.length_zip, ← ll, Nat.min_self, sizeLine_eq]; omega
    · exact (x'.trans ⟨List.prefix_refl _, x2⟩).trans (x5.trans x6)
    · rw [upd_same, putK_zip ll]; rfl
    · exact reps_dpV ve6 (rs.mono ((x2.trans x5.sub).trans x6.sub))
  · have e : i = n := by omega
    subst e
    obtain ⟨l1, l2, l3⟩ := dcF_ok kf f i
    exact .inl ⟨okJ.stop as' G' H' _ _ c' x'.sub, k D as' G' H' vs _ _ (show Cz X F as' G' H' σ ⟨s1.sl, (s1.wipe (own.map (·.2))).ce, s1.ar⟩ from c1.back c' x') (x1.trans x') hd g' n' hD0 rs (by rw [l1, rs.length]) l2 q4⟩
/-- a dict laid now is locked and frozen -/
theorem lay_dct {as : List Addr} {G H : Hp} {σ : L2.St} {D : Addr} {ks : List Key} {vs : List V} {od : Obj} (c : Cz X F as G H σ s) (gD : G D = none) (nD : D ∉ as) (h0 : F.H0 D = none) : Cz X F as G (upd H D (.frz od (.dK (ks.zip vs)))) σ s := by
    refine ⟨fun b u q => ?_, c.base, c.new, fun b u w1 w2 => ?_, c.len, c.pre, c.nd, c.own, c.fresh, fun a ha => ?_, fun l kd es q => ?_, c.slots, c.slen, c.har⟩
    · rw [upd_ne (ne_of_none q gD)]; exact c.sub b u q
    · rw [upd_ne (ne_of_none w1 h0)]; exact c.frame b u w1 w2
    · rw [upd_ne (fun z => nD (by rw [← z]; exact ha))]; exact c.there a ha
    · obtain ⟨a, ws, w1, w2, w3⟩ := c.cells l kd es q
      exact ⟨a, ws, w1, w2.keep fun u z => by rw [upd_ne (fun z => nD (by rw [← z]; exact List.mem_of_getElem? w1))]; exact z, w3⟩
theorem frz_dct {as : List Addr} {G H : Hp} {σ : L2.St} {D : Addr} {ks : List Key} {vs : List V} {ds : List DL.D} {od : Obj} (c : Cz X F as G H σ s) (gD : G D = none) (nD : D ∉ as) (h0 : F.H0 D = none) (rs : Reps X.K G vs ds) (l : ks.length = vs.length) (nd : ks.Nodup) :
    Cz X F as (upd G D (.frz od (.dK (ks.zip vs)))) (upd H D (.frz od (.dK (ks.zip vs)))) σ s ∧ Same G (upd G D (.frz od (.dK (ks.zip vs)))) ∧ Rep X.K (upd G D (.frz od (.dK (ks.zip vs)))) (.ref D) (.nd (.dct ks) ds) := by
  have sg : Same G (upd G D (.frz od (.dK (ks.zip vs)))) := same_new gD
  exact ⟨(lay_dct c gD nD h0).frzG upd_same gD nD h0, sg, .nd ⟨l, nd, od, upd_same⟩ (rs.mono sg)⟩
/-- {k: v for x in iter}, pure: the dict, frozen -/
theorem je_dcP (bx : Bx X B) (ok : BlkOk X.N X.env.scope scope own) (hj : j ∈ own.map (·.2)) (hn : ∀ Y, IsBlk X scope Y → NmW Y j x)
    (h : DcI X F (.Name x p) iter kx vx scope (own.map (·.2)) j s fun ks ds => Φ (.d (.nd (.dct ks) ds)) s)
    (hs : ∀ x, foldedSetIterable iter X.env x = pure x := by intro _; rfl) : JE X F (.DictComp kx vx [⟨.Name x p, iter, [], 0⟩] scope pos) s Φ := fun as G H σ Q c k =>
  sem_lock (PE.sem (pe_dc bx.calm bx.nd (pi_sem X _ iter) ok (pg_B hn) pts_B pe_B pe_B hs) (dc_read hj h as G H σ _ c fun D as' G' H' vs ks ds c' x' hd gD nD h0 rs l nd q =>
    ⟨D, _, hd, trivial, fun od => by
      obtain ⟨c2, sg, rep⟩ := frz_dct (od := od) c' gD nD h0 rs l nd
      exact k _ as' _ _ _ s c2 (x'.trans ⟨List.prefix_refl _, sg⟩) rep q⟩))
theorem ps_setDc {i : Nat} {y : Str} {py : Pos} {kx vx tg iter : Expr} {ifs : List Expr} {scope : Scope} {own : List (Str × Nat)} {pos spos : Pos} {wi : TI} {g : TG} {tt : TT} {tk tv : TE} (hc : X.calm = true) (hN : X.N.Nodup) (hy : X.N[i]? = some y) (hyl : X.env.scope.names.lookup y = some .local)
    (hsw : swapsWith (.DictComp kx vx [⟨tg, iter, ifs, 0⟩] scope pos) (some (.Name y py)) spos.line X.env = pure true) (hi : PI X tg iter wi) (ok : BlkOk X.N X.env.scope scope own)
    (hg : ∀ (s : Shared) (H : Hp) (C : Addr) (cl : List (Str × Addr)) (fp : List Addr), PG (X.blk s H scope (compEnvC scope cl C X.env) fp) tg g) (ht : ∀ (s : Shared) (H : Hp) (C : Addr) (cl : List (Str × Addr)) (fp : List Addr), PTs (X.blk s H scope (compEnvC scope cl C X.env) fp) ifs tt)
    (hk : ∀ (s : Shared) (H : Hp) (C : Addr) (cl : List (Str × Addr)) (fp : List Addr), PE (X.blk s H scope (compEnvC scope cl C X.env) fp) kx tk)
    (he : ∀ (s : Shared) (H : Hp) (C : Addr) (cl : List (Str × Addr)) (fp : List Addr), PE (X.blk s H scope (compEnvC scope cl C X.env) fp) vx tv) (hs : ∀ x, foldedSetIterable iter X.env x = pure x := by intro _; rfl) :
    PS X (.Assign [.Name y py] (.DictComp kx vx [⟨tg, iter, ifs, 0⟩] scope pos) spos) (fun D σ H => tDc wi g tt tk tv (own.map (·.2)) σ H fun v H' => ∃ d u, H' d = some u ∧ Mut (some u) ∧ ∀ od, gName i v σ (upd H' d (.frz od u)) D.nx) := by
  refine ⟨fun pins s σ H D I h => ?_⟩
  rw [exec_Assign_Name_used _ _ _ _ hsw]
  refine wpAny_bind (wpAny_standAt (wpAny_bind ?_))
  show wpAny _ X.A (do let _ ← comprehension (.DictComp kx vx [⟨tg, iter, ifs, 0⟩] scope pos) scope X.env (firstIterPos [⟨tg, iter, ifs, 0⟩] pos) newDict false (eval iter X.env) (some (assign (.Name y py) X.env))) _ _ s
  refine wpAny_bind (thn (dc_core (Qf := fun _ s' => SP X pins D .next s') hc hN I hi ok hg ht hk he hs h fun L C s' m H' I' q hn f => ?_) fun _ s' hq => wpAny_pure (wpAny_pure hq))
  show wpAny _ _ (assign (.Name y py) X.env (.ref L)) _ _ _
  obtain ⟨d, u, hd, mu, q⟩ := q
  obtain ⟨od, I''⟩ := I'.lock hd mu
  refine wpAny_assign_Name (store_ok2 (v := V.ref L) I'' hN hy (.inl hyl) rfl (fun s2 I2 ⟨a, sb, ha⟩ => ?_) (.inr hyl))
  obtain ⟨f0, f1, f2, f3, f4, f5⟩ := f
  have f0 : upd H' d (.frz od u) C = none := by rw [upd_ne (fun z => by rw [z, hd] at f0; cases f0)]; exact f0
  have haC : C ≠ a := by
    rcases ha with z | z
    · rw [z]; exact f1
    · exact fun e => f4 y a z e.symm
  refine ⟨m, hn.sameBut sb haC, fun h3 sb3 => ?_⟩
  exact ⟨_, _, I2.turned (t' := s2.toks) (fun b o hb e => (sb3.2 b hb).trans e) f0 f1 f3 f4 f5, q od⟩
/-- name = {..} on one line -/
theorem js_setDcP {i : Nat} {y : Str} {py spos : Pos} {P : Po} (bx : Bx X B) (ny : NmW X i y) (ly : X.env.scope.names.lookup y = some .local) (hsw : swapsWith (.DictComp kx vx [⟨.Name x p, iter, [], 0⟩] scope pos) (some (.Name y py)) spos.line X.env = pure true)
    (ok : BlkOk X.N X.env.scope scope own) (hj : j ∈ own.map (·.2)) (hn : ∀ Y, IsBlk X scope Y → NmW Y j x)
    (h : DcI X F (.Name x p) iter kx vx scope (own.map (·.2)) j s fun ks ds => P.nx (s.set i (.d (.nd (.dct ks) ds))))
    (hs : ∀ x, foldedSetIterable iter X.env x = pure x := by intro _; rfl) : JS X F (.Assign [.Name y py] (.DictComp kx vx [⟨.Name x p, iter, [], 0⟩] scope pos) spos) s P := fun as G H σ D c k =>
  PS.sem (ps_setDc bx.calm bx.nd ny.nm ly hsw (pi_sem X _ iter) ok (pg_B hn) pts_B pe_B pe_B hs) (dc_read hj h as G H σ _ c fun d as' G' H' vs ks ds c' x' hd gD nD h0 rs l nd q =>
    ⟨d, _, hd, trivial, fun od => by
      obtain ⟨c2, sg, rep⟩ := frz_dct (od := od) c' gD nD h0 rs l nd
      exact k.nx as' _ _ _ _ (c2.set (i := i) (v := .ref d) (e := .d (.nd (.dct ks) ds)) rep) (x'.sub.trans sg) q⟩)
/-- .. owned -/
theorem js_setDcO {i : Nat} {y : Str} {py spos : Pos} {P : Po} (bx : Bx X B) (ny : NmW X i y) (ly : X.env.scope.names.lookup y = some .local) (hsw : swapsWith (.DictComp kx vx [⟨.Name x p, iter, [], 0⟩] scope pos) (some (.Name y py)) spos.line X.env = pure true)
    (ok : BlkOk X.N X.env.scope scope own) (hj : j ∈ own.map (·.2)) (hn : ∀ Y, IsBlk X scope Y → NmW Y j x)
    (h : DcI X F (.Name x p) iter kx vx scope (own.map (·.2)) j s fun ks ds => P.nx ((s.push (.dct ks) (ds.map .d)).set i (.r s.ce.length)))
    (hs : ∀ x, foldedSetIterable iter X.env x = pure x := by intro _; rfl) : JS X F (.Assign [.Name y py] (.DictComp kx vx [⟨.Name x p, iter, [], 0⟩] scope pos) spos) s P := fun as G H σ D c k =>
  PS.sem (ps_setDc bx.calm bx.nd ny.nm ly hsw (pi_sem X _ iter) ok (pg_B hn) pts_B pe_B pe_B hs) (dc_read hj h as G H σ _ c fun d as' G' H' vs ks ds c' x' hd gD nD h0 rs l nd q =>
    ⟨d, _, hd, trivial, fun od => by
      have c2 := (lay_dct (ks := ks) (vs := vs) (od := od) c' gD nD h0).grow (kd := .dct ks) gD nD h0 ⟨l, nd, od, upd_same⟩ (VEs.ofReps rs)
      exact k.nx _ _ _ _ _ (c2.set (i := i) (v := .ref d) (e := .r s.ce.length) ⟨d, by rw [← c'.len, List.getElem?_append_right (Nat.le_refl _)]; simp, rfl⟩) x'.sub q⟩)
end
theorem jo_none {Φ : Option Int → S → Prop} (h : Φ none s) : JO X F none s Φ := h
theorem jo_some {e : Expr} {Φ : Option Int → S → Prop} (h : JE X F e s fun e1 s1 => ∃ i, e1 = .d (.int i) ∧ Φ (some i) s1) : JO X F (some e) s Φ := h
end DL
namespace DL
open PySem PySem.Spec PyProof.Rows L2
variable {X : Cx} {F : Fr} {s : S}
/-! ### a block's scope, by looking -/
def blkB (N : List Str) (sc scope : Scope) (own : List (Str × Nat)) : Bool :=
  decide (scope.kind = .function) && scope.names.all (fun y => decide (scope.names.lookup y.1 = some y.2)) && own.all (fun p => decide (N[p.2]? = some p.1))
    && scope.names.all (fun y => decide (y.2 = .free → (sc.names.lookup y.1 = some .cell ∨ sc.names.lookup y.1 = some .free)))
    && scope.names.all (fun y => decide ((y.2 = .local ∨ y.2 = .cell) → (y.1 ∈ own.map (·.1) ∨ y.1 ∉ N)))
theorem blk_ok {P : Program} {w : World} {K : PySem.W.Frag} {mg : Str → Option Value} {base : Heap} {N : List Str} {sc scope : Scope} {k : Nat} {own : List (Str × Nat)} (hX : XIs X P w K mg base N sc k) (h : blkB N sc scope own = true) : BlkOk X.N X.env.scope scope own := by
  rw [hX.eN, hX.eS]
  unfold blkB at h
  simp only [Bool.and_eq_true, List.all_eq_true, decide_eq_true_eq] at h
  obtain ⟨⟨⟨⟨h1, h2⟩, h3⟩, h4⟩, h5⟩ := h
  exact ⟨h1, h2, h3, h4, h5⟩
/-! ### keys and what stands there -/
theorem lk_get {α : Type} : ∀ {ks : List Key} {es : List α} {i : Nat} {k : Key} {e : α}, ks.Nodup → ks[i]? = some k → es[i]? = some e → lk (ks.zip es) k = some e
  | [], _, _, _, _, _, h, _ => by simp at h
  | k' :: ks, [], _, _, _, _, _, h => by simp at h
  | k' :: ks, e' :: es, 0, k, e, _, h1, h2 => by
    simp at h1 h2
    subst h1 h2
    simp [lk]
  | k' :: ks, e' :: es, i + 1, k, e, hn, h1, h2 => by
    simp at h1 h2
    have hk : k ∈ ks := List.mem_of_getElem? h1
    have hne : k' ≠ k := fun z => (List.nodup_cons.mp hn).1 (z ▸ hk)
    have := lk_get (List.nodup_cons.mp hn).2 h1 h2
    unfold lk at this ⊢
    rw [List.zip_cons_cons, List.find?_cons_of_neg (by simp [hne])]
    exact this
theorem lk_map {α β : Type} {f : α → β} {k : Key} : ∀ {ks : List Key} {es : List α}, lk (ks.zip (es.map f)) k = (lk (ks.zip es) k).map f
  | [], es => by simp [lk]
  | _ :: _, [] => by simp [lk]
  | k' :: ks, e :: es => by
    have ih := lk_map (f := f) (k := k) (ks := ks) (es := es)
    unfold lk at ih ⊢
    rw [List.map_cons, List.zip_cons_cons, List.zip_cons_cons]
    by_cases h : k' = k
    · rw [List.find?_cons_of_pos (by simp [h]), List.find?_cons_of_pos (by simp [h])]; rfl
    · rw [List.find?_cons_of_neg (by simp [h]), List.find?_cons_of_neg (by simp [h])]; exact ih
theorem memK_get {ks : List Key} {i : Nat} {k : Key} (h : ks[i]? = some k) : memK k ks = true := memK_iff.mpr (List.mem_of_getElem? h)
theorem memK_not {ks : List Key} {k : Key} (h : k ∉ ks) : ¬ memK k ks = true := fun z => h (memK_iff.mp z)
theorem dpK_new {ks : List Key} {k : Key} (h : k ∉ ks) : dpK ks k = ks ++ [k] := if_neg (memK_not h)
theorem dpV_new {α : Type} {ks : List Key} {es : List α} {k : Key} {e : α} (h : k ∉ ks) : dpV ks es k e = es ++ [e] := if_neg (memK_not h)
theorem dpK_old {ks : List Key} {k : Key} (h : k ∈ ks) : dpK ks k = ks := if_pos (memK_iff.mpr h)
theorem zip_same {α : Type} {k : Key} {e : α} : ∀ {ks : List Key} {es : List α}, k ∉ ks → ks.length = es.length → (ks.zip es).map (fun q => if q.1 = k then e else q.2) = es
  | [], [], _, _ => rfl
  | [], _ :: _, _, h => by simp at h
  | _ :: _, [], _, h => by simp at h
  | a :: ks, b :: es, hk, h => by
    simp only [List.mem_cons, not_or] at hk
    rw [List.zip_cons_cons, List.map_cons, zip_same hk.2 (by simpa using h), if_neg (fun z => hk.1 z.symm)]
theorem dpV_get {α : Type} : ∀ {ks : List Key} {es : List α} {i : Nat} {k : Key} {e : α}, ks.Nodup → ks[i]? = some k → ks.length = es.length → dpV ks es k e = es.set i e
  | [], _, _, _, _, _, h, _ => by simp at h
  | k' :: ks, [], _, _, _, _, _, h => by simp at h
  | k' :: ks, e' :: es, 0, k, e, hn, h1, h2 => by
    simp at h1
    subst h1
    have hk : k' ∉ ks := (List.nodup_cons.mp hn).1
    unfold dpV
    rw [if_pos (memK_iff.mpr List.mem_cons_self)]
    simp only [List.zip_cons_cons, List.map_cons, if_true, List.set_cons_zero, List.cons.injEq, true_and]
    exact zip_same hk (by simpa using h2)
  | k' :: ks, e' :: es, i + 1, k, e, hn, h1, h2 => by
    simp at h1
    have hk : k ∈ ks := List.mem_of_getElem? h1
    have hne : k' ≠ k := fun z => (List.nodup_cons.mp hn).1 (z ▸ hk)
    have ih := dpV_get (e := e) (List.nodup_cons.mp hn).2 h1 (by simpa using h2)
    unfold dpV at ih ⊢
    rw [if_pos (memK_iff.mpr hk)] at ih
    rw [if_pos (memK_iff.mpr (List.mem_cons_of_mem _ hk)), List.zip_cons_cons, List.map_cons, ih, if_neg hne, List.set_cons_succ]
theorem nodup_get {α : Type} {l : List α} {i j : Nat} {a : α} (h : l.Nodup) (h1 : l[i]? = some a) (h2 : l[j]? = some a) : i = j := by
  obtain ⟨l1, e1⟩ := List.getElem?_eq_some_iff.mp h1
  obtain ⟨l2, e2⟩ := List.getElem?_eq_some_iff.mp h2
  exact (List.getElem_inj h).mp (e1.trans e2.symm)
theorem notin_take {α : Type} {l : List α} {i : Nat} {a : α} (h : l.Nodup) (h1 : l[i]? = some a) : a ∉ l.take i := fun z => by
  obtain ⟨j, hj⟩ := List.getElem?_of_mem z
  have hl := (List.getElem?_eq_some_iff.mp hj).1
  rw [List.length_take] at hl
  rw [List.getElem?_take_of_lt (by omega)] at hj
  have := nodup_get h h1 hj
  omega
theorem take_snoc {α : Type} {l : List α} {i : Nat} {a : α} (h : l[i]? = some a) : l.take i ++ [a] = l.take (i + 1) := by
  rw [List.take_add_one, h]; rfl
theorem nodup_inr {ks : List Str} (h : ks.Nodup) : (ks.map (Sum.inr : Str → Key)).Nodup := by
  induction ks with
  | nil => exact List.nodup_nil
  | cons a ks ih =>
    rw [List.map_cons, List.nodup_cons]
    refine ⟨fun z => ?_, ih (List.nodup_cons.mp h).2⟩
    obtain ⟨b, h1, h2⟩ := List.mem_map.mp z
    cases h2
    exact (List.nodup_cons.mp h).1 h1
theorem notin_inr {ks : List Str} {x : Str} (h : x ∉ ks) : (Sum.inr x : Key) ∉ ks.map Sum.inr := fun z => by
  obtain ⟨b, h1, h2⟩ := List.mem_map.mp z
  cases h2
  exact h h1
/-! ### name = [..] on one line, pure -/
section
variable {elt iter : Expr} {scope : Scope} {own : List (Str × Nat)} {pos p : Pos} {x : Str} {j B : Nat}
theorem js_setLcP {i : Nat} {y : Str} {py spos : Pos} {P : Po} (bx : Bx X B) (ny : NmW X i y) (ly : X.env.scope.names.lookup y = some .local) (hsw : swapsWith (.ListComp elt [⟨.Name x p, iter, [], 0⟩] scope pos) (some (.Name y py)) spos.line X.env = pure true)
    (ok : BlkOk X.N X.env.scope scope own) (hj : j ∈ own.map (·.2)) (hn : ∀ Y, IsBlk X scope Y → NmW Y j x)
    (h : JI X F (.Name x p) iter s fun n it s1 => s1 = s ∧ n ≤ 16000000 ∧ ∃ f : Nat → D, (∀ i v acc, i < n → it i v → ∀ Y, IsBlk X scope Y → JE Y F elt (s.blk (own.map (·.2)) acc j v) fun y s3 => y = .d (f i) ∧ s3 = s.blk (own.map (·.2)) acc j v) ∧ P.nx (s.set i (.d (.nd .lst ((List.range n).map f)))))
    (hs : ∀ x, foldedSetIterable iter X.env x = pure x := by intro _; rfl) : JS X F (.Assign [.Name y py] (.ListComp elt [⟨.Name x p, iter, [], 0⟩] scope pos) spos) s P := fun as G H σ D c k =>
  PS.sem (ps_setLc bx.calm bx.nd ny.nm ly hsw (pi_sem X _ iter) ok (pg_B hn) pts_B pe_B hs) (lc_read (Φ := fun e1 s1 => ∃ ds, e1 = .r s.ce.length ∧ s1 = s.push .lst (ds.map .d) ∧ P.nx (s.set i (.d (.nd .lst ds)))) hj
    (fun as G H σ R c k => h as G H σ R c fun J as1 G1 H1 s1 n it c1 x1 okJ ⟨q1, q2, f, q3, q4⟩ => by
      subst q1
      refine k J as1 G1 H1 s1 n it c1 x1 okJ ⟨_, (lc_pure hj q2 q3).1, (lc_pure hj q2 q3).2, ?_⟩
      rintro acc s' ⟨rfl, rfl⟩
      exact ⟨_, rfl, rfl, q4⟩) as G H σ _ c fun v as1 G1 H1 e1 s1 c1 x1 ve ⟨ds, q1, q2, q3⟩ => by
    subst q1 q2
    obtain ⟨G2, c2, sg, rep⟩ := c.popFrz c1 x1
    obtain ⟨q, hq, rfl⟩ := ve
    exact k.nx as G2 H1 _ _ (c2.set (i := i) (e := .d (.nd .lst ds)) (rep q hq)) (x1.sub.trans sg) q3)
end
theorem XIs.gcS {P : Program} {w : World} {K : PySem.W.Frag} {mg : Str → Option Value} {base : Heap} {N : List Str} {sc : Scope} {k : Nat} {x z : Str} (hX : XIs X P w K mg base N sc k) (h : sc.names.lookup x = some .globalImplicit) (hm : ∃ u, mg x = some u ∧ RelV (.str z) u) (hd : (x == ("__debug__" : Str)) = false := by decide) : Gc X x (.str z) :=
  ⟨hX.gl h, let ⟨u, h1, h2⟩ := hm; ⟨.str z, u, by rw [hX.eM]; exact h1, h2, .str z⟩, hd⟩
theorem XIs.gcI {P : Program} {w : World} {K : PySem.W.Frag} {mg : Str → Option Value} {base : Heap} {N : List Str} {sc : Scope} {k : Nat} {x : Str} {i : Int} (hX : XIs X P w K mg base N sc k) (h : sc.names.lookup x = some .globalImplicit) (hm : ∃ u, mg x = some u ∧ RelV (.int i) u) (hd : (x == ("__debug__" : Str)) = false := by decide) : Gc X x (.int i) :=
  ⟨hX.gl h, let ⟨u, h1, h2⟩ := hm; ⟨.int i, u, by rw [hX.eM]; exact h1, h2, .int i⟩, hd⟩
/-- o[i] = v, o an owned list or an owned dict -/
theorem jg_setX {B : Nat} {o i : Expr} {v : E} {Φ : S → Prop} {p : Pos} (bx : Bx X B) (hH : X.H_0 = F.H0) (h : JE X F o s fun eo s1 => JE X F i s1 fun ei s2 =>
      (∃ k n es j, eo = .r k ∧ ei = .d (.int n) ∧ nth s2.ce k = some (.nd .lst es) ∧ ixN es.length n = some j ∧ Φ (s2.put k .lst (es.set j v))) ∨
      (∃ k ks es kk, eo = .r k ∧ keyE ei = some kk ∧ nth s2.ce k = some (.nd (.dct ks) es) ∧ s2.ar ≤ k ∧ es.length < sizeLine ∧ Φ (s2.put k (.dct (dpK ks kk)) (dpV ks es kk v))))
    (ha : ∀ v, assign (.Subscript o i p) X.env v = (do
      let ov ← holding [v] (eval o X.env)
      let iv ← holding [v, ov] (eval i X.env)
      standAt p
      holding [v, ov, iv] (setItem ov iv v)
      release [v, ov, iv] []) := by intro _; rfl) : JG X F (.Subscript o i p) v s Φ :=
  fun as G H σ u Q c ve k => PG.sem (pg_sub (t := fun a b c H Q => rSetL a b c H Q ∨ _) (pe_sem X o) (pe_sem X i) (fun pins st σ H o i v ov iv u Q I ro ri rv h => h.elim (set_list pins st σ H o i v ov iv u Q I ro ri rv) (set_dictZ bx.hu pins st σ H o i v ov iv u Q I ro ri rv)) ha) (h as G H σ _ c fun v1 as1 G1 H1 e1 s1 c1 x1 ve1 h1 => h1 as1 G1 H1 σ _ c1 fun v2 as2 G2 H2 e2 s2 c2 x2 ve2 hq => by
    rcases hq with ⟨kk, n, es, j, q1, q2, q3, q4, q5⟩ | ⟨j, ks, es, kk, q1, q2, q3, q4, q5, q6⟩
    · refine .inl ?_
      subst q1 q2
      cases ve2
      obtain ⟨a, ha, rfl⟩ := x2.ve ve1
      rw [nth_eq] at q3
      obtain ⟨a', vs, g1, g2, g3⟩ := c2.cells kk _ _ q3
      rw [ha] at g1
      cases g1
      have g2' : H2 a = some (.lst vs) := g2
      have hl := Paired.length g3
      refine ⟨a, vs, n, j, rfl, rfl, g2', by rw [hl]; exact q4, ?_⟩
      have vu := (x1.trans x2).ve ve
      have hv : VEs X.K G2 as2 (vs.set j u) (es.set j v) := by
        clear q4 q5 g2' g2 hl q3
        induction g3 generalizing j with
        | nil => exact .nil
        | cons r t ih =>
          cases j with
          | zero => exact .cons vu t
          | succ j => exact .cons r (ih j)
      exact k as2 G2 _ σ _ (c2.put (kd := .lst) q3 ha upd_same hv) (x1.trans x2) q5
    · refine .inr ?_
      subst q1
      obtain rfl := keyE_v q2 ve2
      obtain ⟨a, ha, rfl⟩ := x2.ve ve1
      rw [nth_eq] at q3
      obtain ⟨a', vs, g1, ⟨g2, g3, od, g4⟩, g5⟩ := c2.cells j _ _ q3
      rw [ha] at g1
      cases g1
      have hl := Paired.length g5
      have nA : a ∉ F.A0 := fun z => by
        obtain ⟨l, hl⟩ := List.getElem?_of_mem z
        have q := pre_get c2.pre hl
        obtain ⟨l1, e1⟩ := List.getElem?_eq_some_iff.mp q
        obtain ⟨l2, e2⟩ := List.getElem?_eq_some_iff.mp ha
        have := (List.getElem_inj c2.nd).mp (e1.trans e2.symm)
        have l3 := (List.getElem?_eq_some_iff.mp hl).1
        rw [c2.har] at l3
        omega
      have h0 : F.H0 a = none := (c2.fresh a (List.mem_of_getElem? ha)).resolve_left nA
      refine ⟨a, od, _, kk, rfl, rfl, g4, fun o' u' z => (by rw [hH, h0] at z; cases z), by rw [List.length_zip, g2, Nat.min_self, hl]; exact q5, fun od' => ?_⟩
      rw [putK_zip g2]
      exact k as2 G2 _ σ _ (c2.put (kd := .dct (dpK ks kk)) q3 ha ⟨dpV_len g2, dpK_nodup g3, od', upd_same⟩ (ves_dpV ((x1.trans x2).ve ve) g5)) (x1.trans x2) q6)
theorem range_getD {α β : Type} (g : α → β) (d : α) (ys : List α) : (List.range ys.length).map (fun i => g (ys.getD i d)) = ys.map g := by
  apply List.ext_getElem?
  intro i
  rw [List.getElem?_map, List.getElem?_map]
  by_cases h : i < ys.length
  · rw [List.getElem?_range h, List.getElem?_eq_getElem h]
    simp [List.getD, List.getElem?_eq_getElem h]
  · rw [List.getElem?_eq_none (by simpa using h), List.getElem?_eq_none (by omega)]
    rfl
theorem dcF_getD {α : Type} {g : α → Key} {f : α → D} {d : α} {ys : List α} (h : (ys.map g).Nodup) : dcF (fun i => g (ys.getD i d)) (fun i => f (ys.getD i d)) ys.length = (ys.map g, ys.map f) := by
  rw [dcF_inj, range_getD, range_getD]
  intro i j hij hj e
  have hi : i < ys.length := by omega
  have h1 : (ys.map g)[i]? = some (g (ys.getD i d)) := by rw [List.getElem?_map, List.getElem?_eq_getElem hi]; simp [List.getD, List.getElem?_eq_getElem hi]
  have h2 : (ys.map g)[j]? = some (g (ys.getD j d)) := by rw [List.getElem?_map, List.getElem?_eq_getElem hj]; simp [List.getD, List.getElem?_eq_getElem hj]
  have e : g (ys.getD i d) = g (ys.getD j d) := e
  rw [e] at h1
  have := nodup_get h h1 h2
  omega
theorem getD_at {α : Type} {d : α} {ys : List α} {i : Nat} {x : α} (h : ys[i]? = some x) : ys.getD i d = x := by
  simp [List.getD, h]
def leavesB : List Stmt → Bool
  | [] => false
  | [.Return _ _] => true
  | [.Break _] => true
  | [.Continue _] => true
  | [.Raise _ _ _] => true
  | _ :: r => leavesB r
/-- an if whose block ends by leaving -/
theorem jss_ifL {c : Expr} {t sts : List Stmt} {pos : Pos} {P : Po} (hl : leavesB t = true) (h : JT X F c s fun k s1 => if k = true then JSs X F t s1 (P.then fun s1 => JSs X F sts s1 P) else JSs X F sts s1 P) : JSs X F (.If c t [] pos :: sts) s P :=
  jss_cons (js_if (fun as G H σ Q cz k => h as G H σ Q cz fun b as' G' H' s' c' x q => k b as' G' H' s' c' x (by
    cases b with
    | true => exact q
    | false => exact jss_nilT (P := P) (N := fun s1 => JSs X F sts s1 P) q)))
section
variable {e : E} {Φ : E → S → Prop}
theorem jr_isT {b : Bool} (h : isBl b e = true) (q : Φ (.d (.bl true)) s) : JR X F (compareOp .Is) e (.d (.bl b)) s Φ := jr_isBl (by rw [h]; exact q)
theorem jr_isF {b : Bool} (h : isBl b e = false) (q : Φ (.d (.bl false)) s) : JR X F (compareOp .Is) e (.d (.bl b)) s Φ := jr_isBl (by rw [h]; exact q)
theorem jr_isNT (h : isNon e = true) (q : Φ (.d (.bl true)) s) : JR X F (compareOp .Is) e (.d .non) s Φ := jr_isN (by rw [h]; exact q)
theorem jr_isNF (h : isNon e = false) (q : Φ (.d (.bl false)) s) : JR X F (compareOp .Is) e (.d .non) s Φ := jr_isN (by rw [h]; exact q)
theorem jr_notNT (h : isNon e = true) (q : Φ (.d (.bl false)) s) : JR X F (compareOp .IsNot) e (.d .non) s Φ := jr_notN (by rw [h]; exact q)
theorem jr_notNF (h : isNon e = false) (q : Φ (.d (.bl true)) s) : JR X F (compareOp .IsNot) e (.d .non) s Φ := jr_notN (by rw [h]; exact q)
theorem jr_eqiS {i : Int} (q : Φ (.d (.bl true)) s) : JR X F (compareOp .Eq) (.d (.int i)) (.d (.int i)) s Φ := jr_eqi (by rw [decide_eq_true rfl]; exact q)
theorem jr_eqsS {i : Str} (q : Φ (.d (.bl true)) s) : JR X F (compareOp .Eq) (.d (.str i)) (.d (.str i)) s Φ := jr_eqs (by rw [decide_eq_true rfl]; exact q)
theorem jr_eqbS {i : Bool} (q : Φ (.d (.bl true)) s) : JR X F (compareOp .Eq) (.d (.bl i)) (.d (.bl i)) s Φ := jr_eqb (by rw [decide_eq_true rfl]; exact q)
theorem jr_nebS {i : Bool} (q : Φ (.d (.bl false)) s) : JR X F (compareOp .NotEq) (.d (.bl i)) (.d (.bl i)) s Φ := jr_neb (by rw [decide_eq_true rfl]; exact q)
end
theorem lk_memK {α : Type} {ks : List Key} {es : List α} {k : Key} {e : α} (h : lk (ks.zip es) k = some e) : memK k ks = true := by
  unfold lk at h
  cases q : (ks.zip es).find? fun kv => decide (kv.1 = k) with
  | none => rw [q] at h; cases h
  | some p =>
    have h1 := List.mem_of_find?_eq_some q
    have h2 := List.find?_some q
    have h3 : p.1 = k := of_decide_eq_true h2
    exact memK_iff.mpr (h3 ▸ (List.of_mem_zip h1).1)
theorem kit_NoneType_dict : kitB "NoneType" "dict" = some false := by decide +kernel
theorem kit_NoneType_list : kitB "NoneType" "list" = some false := by decide +kernel
theorem kit_NoneType_tuple : kitB "NoneType" "tuple" = some false := by decide +kernel
theorem kit_NoneType_str : kitB "NoneType" "str" = some false := by decide +kernel
theorem kit_NoneType_int : kitB "NoneType" "int" = some false := by decide +kernel
theorem kit_NoneType_bool : kitB "NoneType" "bool" = some false := by decide +kernel
theorem kit_bool_dict : kitB "bool" "dict" = some false := by decide +kernel
theorem kit_bool_list : kitB "bool" "list" = some false := by decide +kernel
theorem kit_bool_tuple : kitB "bool" "tuple" = some false := by decide +kernel
theorem kit_bool_str : kitB "bool" "str" = some false := by decide +kernel
theorem kit_bool_int : kitB "bool" "int" = some true := by decide +kernel
theorem kit_bool_bool : kitB "bool" "bool" = some true := by decide +kernel
theorem kit_int_dict : kitB "int" "dict" = some false := by decide +kernel
theorem kit_int_list : kitB "int" "list" = some false := by decide +kernel
theorem kit_int_tuple : kitB "int" "tuple" = some false := by decide +kernel
theorem kit_int_str : kitB "int" "str" = some false := by decide +kernel
theorem kit_int_int : kitB "int" "int" = some true := by decide +kernel
theorem kit_int_bool : kitB "int" "bool" = some false := by decide +kernel
theorem kit_str_dict : kitB "str" "dict" = some false := by decide +kernel
theorem kit_str_list : kitB "str" "list" = some false := by decide +kernel
theorem kit_str_tuple : kitB "str" "tuple" = some false := by decide +kernel
theorem kit_str_str : kitB "str" "str" = some true := by decide +kernel
theorem kit_str_int : kitB "str" "int" = some false := by decide +kernel
theorem kit_str_bool : kitB "str" "bool" = some false := by decide +kernel
theorem kit_tuple_dict : kitB "tuple" "dict" = some false := by decide +kernel
theorem kit_tuple_list : kitB "tuple" "list" = some false := by decide +kernel
theorem kit_tuple_tuple : kitB "tuple" "tuple" = some true := by decide +kernel
theorem kit_tuple_str : kitB "tuple" "str" = some false := by decide +kernel
theorem kit_tuple_int : kitB "tuple" "int" = some false := by decide +kernel
theorem kit_tuple_bool : kitB "tuple" "bool" = some false := by decide +kernel
theorem kit_list_dict : kitB "list" "dict" = some false := by decide +kernel
theorem kit_list_list : kitB "list" "list" = some true := by decide +kernel
theorem kit_list_tuple : kitB "list" "tuple" = some false := by decide +kernel
theorem kit_list_str : kitB "list" "str" = some false := by decide +kernel
theorem kit_list_int : kitB "list" "int" = some false := by decide +kernel
theorem kit_list_bool : kitB "list" "bool" = some false := by decide +kernel
theorem kit_dict_dict : kitB "dict" "dict" = some true := by decide +kernel
theorem kit_dict_list : kitB "dict" "list" = some false := by decide +kernel
theorem kit_dict_tuple : kitB "dict" "tuple" = some false := by decide +kernel
theorem kit_dict_str : kitB "dict" "str" = some false := by decide +kernel
theorem kit_dict_int : kitB "dict" "int" = some false := by decide +kernel
theorem kit_dict_bool : kitB "dict" "bool" = some false := by decide +kernel
end DL
namespace DL
open PySem PySem.Spec PyProof.Rows L2
variable {X : Cx} {F : Fr} {s : S}
variable {e a b c : Expr} {es rest : List Expr} {Φ : E → S → Prop} {pos p p2 : Pos} {x : Str} {k B : Nat}
/-- no owned thing among them -/
def allD : List E → Bool
  | [] => true
  | .d _ :: r => allD r
  | .r _ :: _ => false
theorem allD_eq {s : S} : ∀ {vs : List E} {ds : List D}, allD vs = true → s.views vs = some ds → dsOf vs = some ds
  | [], ds, _, h => by cases h; rfl
  | .r _ :: _, _, h, _ => by cases h
  | .d y :: r, ds, h, q => by
    unfold S.views at q
    cases q2 : s.views r with
    | none => rw [q2] at q; simp [S.view] at q
    | some ds' =>
      rw [q2] at q
      simp [S.view] at q
      subst q
      have := allD_eq (vs := r) h q2
      rw [dsOf_eq this]
      exact dsOf_map (y :: ds')
def RtX (Φ : E → S → Prop) (s : S) (vs : List E) (r : Rt) : Prop := match allD vs with
  | true => RtΦ Φ s r
  | false => r.imm = true ∧ RtΦ Φ s r
theorem RtX.ofP {s : S} {vs : List E} {r : Rt} (h : RtX Φ s vs r) (hd : allD vs = true) : RtΦ Φ s r := by unfold RtX at h; rw [hd] at h; exact h
theorem RtX.ofB {s : S} {vs : List E} {r : Rt} (h : RtX Φ s vs r) (hd : allD vs = false) : r.imm = true ∧ RtΦ Φ s r := by unfold RtX at h; rw [hd] at h; exact h
theorem rtX_P {vs : List E} {r : Rt} (h : RtΦ Φ s r) (hd : allD vs = true) : RtX Φ s vs r := by unfold RtX; rw [hd]; exact h
theorem rtX_B {vs : List E} {r : Rt} (hi : r.imm = true) (h : RtΦ Φ s r) : RtX Φ s vs r := by
  unfold RtX
  cases allD vs with
  | true => exact h
  | false => exact ⟨hi, h⟩
theorem ex_views {vs : List E} {ds : List D} {Q : List D → Prop} (h : s.views vs = some ds) (q : Q ds) : ∃ ds, s.views vs = some ds ∧ Q ds := ⟨ds, h, q⟩
theorem views_nil : s.views [] = some [] := rfl
theorem views_d {y : D} {r : List E} {ds : List D} (h : s.views r = some ds) : s.views (.d y :: r) = some (y :: ds) := by unfold S.views; rw [h]; rfl
theorem views_l {j : Nat} {es : List E} {ds rs : List D} {r : List E} (h1 : nth s.ce j = some (.nd .lst es)) (h2 : dsOf es = some ds) (h : s.views r = some rs) : s.views (.r j :: r) = some (.nd .lst ds :: rs) := by
  have e : s.view (.r j) = some (.nd .lst ds) := by
    show (match nth s.ce j with
      | some (.nd .lst es) => (dsOf es).map (D.nd .lst)
      | some (.nd (.dct ks) es) => (dsOf es).map (D.nd (.dct ks))
      | _ => (none : Option D)) = _
    rw [h1]; show (dsOf es).map _ = _; rw [h2]; rfl
  unfold S.views; rw [h, e]
theorem views_k {j : Nat} {ks : List Key} {es : List E} {ds rs : List D} {r : List E} (h1 : nth s.ce j = some (.nd (.dct ks) es)) (h2 : dsOf es = some ds) (h : s.views r = some rs) : s.views (.r j :: r) = some (.nd (.dct ks) ds :: rs) := by
  have e : s.view (.r j) = some (.nd (.dct ks) ds) := by
    show (match nth s.ce j with
      | some (.nd .lst es) => (dsOf es).map (D.nd .lst)
      | some (.nd (.dct ks) es) => (dsOf es).map (D.nd (.dct ks))
      | _ => (none : Option D)) = _
    rw [h1]; show (dsOf es).map _ = _; rw [h2]; rfl
  unfold S.views; rw [h, e]
/-- .. as a step -/
def VwK (s : S) (vs : List E) (Q : List D → Prop) : Prop := ∃ ds, s.views vs = some ds ∧ Q ds
theorem vk_nil {Q : List D → Prop} (q : Q []) : VwK s [] Q := ⟨[], rfl, q⟩
theorem vk_d {y : D} {r : List E} {Q : List D → Prop} (q : VwK s r fun ds => Q (y :: ds)) : VwK s (.d y :: r) Q := let ⟨ds, h, q⟩ := q; ⟨_, views_d h, q⟩
theorem vk_l {j : Nat} {es : List E} {ds : List D} {r : List E} {Q : List D → Prop} (h1 : nth s.ce j = some (.nd .lst es)) (h2 : dsOf es = some ds) (q : VwK s r fun rs => Q (.nd .lst ds :: rs)) : VwK s (.r j :: r) Q := let ⟨_, h, q⟩ := q; ⟨_, views_l h1 h2 h, q⟩
theorem vk_k {j : Nat} {ks : List Key} {es : List E} {ds : List D} {r : List E} {Q : List D → Prop} (h1 : nth s.ce j = some (.nd (.dct ks) es)) (h2 : dsOf es = some ds) (q : VwK s r fun rs => Q (.nd (.dct ks) ds :: rs)) : VwK s (.r j :: r) Q := let ⟨_, h, q⟩ := q; ⟨_, views_k h1 h2 h, q⟩
/-- a call of a def that owns none of its arguments: frozen ones, or owned ones that it only reads -/
theorem je_callX {R : RP} (cb : CbP X x k R) (bx : Bx X B) (hB : k ≤ B)
    (h : JA X F (a :: es) s fun vs s1 => VwK s1 vs fun ds => R ds fun r => RtX Φ s1 vs r) (hdb : (x == ("__debug__" : Str)) = false := by decide) (he : starEach (a :: es) X.env = (false, eval a X.env) :: starEach es X.env := by rfl)
    (hpl : (backTo pos (starEach es X.env)).any (·.1) = false := by rfl) : JE X F (.Call (.Name x p) (a :: es) [] pos) s Φ := by
  obtain ⟨f, fd, ps, h1, h2, h3, h4⟩ := cb.ex
  refine je_of (pe_call h4 (bx.room.mono hB) cb.gl h1 h2 h3 .nil pass0 (pa_sem X _) hdb he hpl) fun as G H σ Q c kk => h as G H σ _ c fun vs as1 G1 H1 es1 s1 c1 x1 ves ⟨ds, e1, hR⟩ => ?_
  rw [List.append_nil]
  cases hd : allD es1 with
  | true =>
    rw [dsOf_eq (allD_eq hd e1)] at ves
    refine ⟨G1, ds, c1.sub, ves.reps, cb.mono ds _ _ (fun r hr0 v G' H' q1 q2 q3 q4 q5 => ?_) hR⟩
    have hr := hr0.ofP hd
    have c2 := c1.call q1 q2 q3 q4
    have x2 : Ext as1 as1 G1 G' := ⟨List.prefix_refl _, q2⟩
    cases r with
    | dat y => exact kk v as1 G' H' (.d y) s1 c2 (x1.trans x2) q5 hr
    | new kd ds' =>
      obtain ⟨b, ws, rfl, w1, w2, w3, w4⟩ := q5
      have c3 := c2.grow (kd := kd) (es := ds'.map .d) w2 (c1.notin w1) (c1.h0none w1) w3 (VEs.ofReps w4)
      exact kk _ _ G' H' (.r s1.ce.length) _ c3 ((x1.trans x2).trans ⟨pre_snoc, Same.refl _⟩) ⟨b, by rw [← c1.len, List.getElem?_append_right (Nat.le_refl _)]; simp, rfl⟩ hr
  | false =>
    refine ⟨lend s1 as1 G1 H1, ds, lend_in c1.sub, c1.views ves e1, cb.mono ds _ _ (fun r hr0 v G' H' q1 q2 q3 q4 q5 => ?_) hR⟩
    obtain ⟨hi, hr⟩ := hr0.ofB hd
    -- what is frozen behind: G' without the owned
    obtain ⟨G2, hG2, hG3⟩ : ∃ G2 : Hp, (∀ b, Alive s1 as1 b → G2 b = none) ∧ ∀ b, ¬ Alive s1 as1 b → G2 b = G' b := by
      classical
      exact ⟨fun b => if Alive s1 as1 b then none else G' b, fun b h => if_pos h, fun b h => if_neg h⟩
    have ga : ∀ {b : Addr}, Alive s1 as1 b → G1 b = none := fun {b} ⟨k, kd, es, w1, w2⟩ => c1.own k b _ _ w1 w2
    have s1' : Same G1 G2 := fun b o q => by
      rw [hG3 b (fun z => by rw [ga z] at q; cases q)]
      exact q2 b o (lend_sub b o q)
    have s2' : Same G2 H' := fun b o q => by
      by_cases hb : Alive s1 as1 b
      · rw [hG2 b hb] at q; cases q
      · rw [hG3 b hb] at q; exact q3 b o q
    have s4' : ∀ b, G1 b = none → H1 b ≠ none → G2 b = none := fun b w1 w2 => by
      by_cases hb : Alive s1 as1 b
      · exact hG2 b hb
      · rw [hG3 b hb]
        exact q4 b (lend_no w1 hb) w2
    have c2 := c1.call q1 s1' s2' s4'
    have x2 : Ext as1 as1 G1 G2 := ⟨List.prefix_refl _, s1'⟩
    -- a tuple is no owned cell
    have tups : ∀ a vs, Rd G' a (.tup vs) → Rd G2 a (.tup vs) := fun b ws hb => by
      have nb : ¬ Alive s1 as1 b := fun z => by
        have w0 := ga z
        obtain ⟨j, kd, es, hj, hcl⟩ := z
        obtain ⟨b', us, g1, g2, g3⟩ := c1.cells j _ _ hcl
        rw [hj] at g1
        cases g1
        obtain ⟨o, ho⟩ := g2.some
        have hG' : G' b = some o := q2 b o (by rw [lend_yes w0 ⟨j, kd, es, hj, hcl⟩]; exact ho)
        have g2' : CellAt G' b us kd := g2.keep fun u q => by rw [ho] at q; cases q; exact hG'
        rcases hb with hb | ⟨oo, hb⟩
        · cases kd with
          | tup => exact g2'
          | lst => have : G' b = some (.lst us) := g2'; rw [hb] at this; cases this
          | dct ks => obtain ⟨_, _, _, this⟩ := g2'; rw [hb] at this; cases this
          | ins C fs => obtain ⟨_, _, this⟩ := g2'; rw [hb] at this; cases this
        · cases kd with
          | tup => exact g2'
          | lst => have : G' b = some (.lst us) := g2'; rw [hb] at this; cases this
          | dct ks => obtain ⟨_, _, _, this⟩ := g2'; rw [hb] at this; cases this
          | ins C fs => obtain ⟨_, _, this⟩ := g2'; rw [hb] at this; cases this
      rcases hb with hb | ⟨oo, hb⟩
      · exact .inl (by rw [hG3 b nb]; exact hb)
      · exact .inr ⟨oo, by rw [hG3 b nb]; exact hb⟩
    cases r with
    | dat y => exact kk v as1 G2 H' (.d y) s1 c2 (x1.trans x2) (imm_keep tups _ _ q5 hi) hr
    | new kd ds' =>
      obtain ⟨b, ws, rfl, w1, w2, w3, w4⟩ := q5
      have gb : G2 b = none := by
        by_cases hb : Alive s1 as1 b
        · exact hG2 b hb
        · rw [hG3 b hb]; exact w2
      have c3 := c2.grow (kd := kd) (es := ds'.map .d) gb (c1.notin w1) (c1.h0none w1) w3 (VEs.ofReps (imm_keeps tups _ _ w4 hi))
      exact kk _ _ G2 H' (.r s1.ce.length) _ c3 ((x1.trans x2).trans ⟨pre_snoc, Same.refl _⟩) ⟨b, by rw [← c1.len, List.getElem?_append_right (Nat.le_refl _)]; simp, rfl⟩ hr
theorem fz_map {k : Nat} {x : D} (ds : List D) : (ds.map E.d).map (E.fz k x) = ds.map E.d := by
  rw [List.map_map]; rfl
theorem ints_imm {α : Type} (f : α → Int) (l : List α) (n : Int) : D.imms (l.map (fun a => .int (f a)) ++ [.int n]) = true := by
  induction l with
  | nil => rfl
  | cons a l ih => show (true && D.imms (l.map (fun a => .int (f a)) ++ [.int n])) = true; rw [ih]; rfl
/-- freezing, the state told anew -/
theorem jss_frz' {sts : List Stmt} {P : Po} {k : Nat} {kd : Kd} {es : List E} {ds : List D} {s' : S} (h1 : nth s.ce k = some (.nd kd es)) (h2 : dsOf es = some ds) (h3 : ∀ C fs, kd ≠ .ins C fs) (h4 : s.ar ≤ k) (e : s.fz k (.nd kd ds) = s') (h : JSs X F sts s' P) : JSs X F sts s P :=
  jss_frz h1 h2 h3 h4 (e ▸ h)
end DL
namespace DL
open PySem PySem.Spec PyProof.Rows L2
variable {X : Cx} {F : Fr} {s : S}
variable {e a b c : Expr} {es rest : List Expr} {Φ : E → S → Prop} {pos p p2 : Pos} {x : Str} {k B : Nat}
/-! ### a module's name for a built-in function -/
structure GlF (X : Cx) (x : Str) (id : String) : Prop where
  gl : Gl X x
  mg : X.mg x = some (.builtin id)
theorem XIs.glf {P : Program} {w : World} {K : PySem.W.Frag} {mg : Str → Option Value} {base : Heap} {N : List Str} {sc : Scope} {k : Nat} {x : Str} {id : String} (h : XIs X P w K mg base N sc k) (h1 : sc.names.lookup x = some .globalImplicit) (h2 : mg x = some (.builtin id)) : GlF X x id := ⟨h.gl h1, by rw [h.eM]; exact h2⟩
theorem je_gcd (g : GlF X x "math.gcd") (h : JE X F a s fun e1 s1 => JE X F b s1 fun e2 s2 => ∃ i j : Int, e1 = .d (.int i) ∧ e2 = .d (.int j) ∧ Φ (.d (.int (Int.gcd i j : Nat))) s2) (hdb : (x == ("__debug__" : Str)) = false := by decide)
    (ns : NoStar a := by intro _ _; rfl) (ns2 : NoStar b := by intro _ _; rfl) : JE X F (.Call (.Name x p) [a, b] [] pos) s Φ :=
  je_of (pe_callBfun cr_gcd g.gl g.mg (pa_cons (pe_sem X a) (pa_cons (pe_sem X b) pa_nil (ns2 _ _)) (ns _ _)) hdb (by rw [ns, ns2]) (by rw [ns2]; rfl)) fun as G H σ Q c k =>
    h as G H σ _ c fun v1 as1 G1 H1 e1 s1 c1 x1 ve1 h1 => h1 as1 G1 H1 σ _ c1 fun v2 as2 G2 H2 e2 s2 c2 x2 ve2 ⟨i, j, q1, q2, q⟩ => by
      subst q1 q2
      cases ve1
      cases ve2
      exact ⟨i, j, rfl, k _ as2 G2 H2 _ s2 c2 (x1.trans x2) (Rep.int _) q⟩
/-! ### operators -/
def CDivZ (_ j : Int) : Prop := j ≠ 0 ∧ j.natAbs.log2 < 9000
theorem op_fdivZ : OpR X (binaryOp .FloorDiv) (rI CDivZ fun i j => .int (i.fdiv j)) := opI fun i j _ _ _ _ _ hc q => floordiv_int hc.1 q (.inl (PyProof.noPylong_of_log2 hc.2))
theorem jr_fdivZ {i j : Int} (hc : CDivZ i j) (q : Φ (.d (.int (i.fdiv j))) s) : JR X F (binaryOp .FloorDiv) (.d (.int i)) (.d (.int j)) s Φ := jr_ii op_fdivZ hc (.int _) q
/-- pairs of ints compared -/
def rq2 (i j : Int) : D := .nd .tup [.int i, .int j]
/-- a text some times -/
def repS (z : Str) (n : Nat) : Str := ⟨(List.replicate n z.cps).foldl (· ++ ·) #[]⟩
theorem repS_len (z : Str) : ∀ n, (repS z n).length = n * z.length := by
  have key : ∀ (n : Nat) (acc : Array Nat), ((List.replicate n z.cps).foldl (· ++ ·) acc).size = acc.size + n * z.cps.size := by
    intro n
    induction n with
    | zero => intro acc; simp
    | succ n ih =>
      intro acc
      rw [List.replicate_succ, List.foldl_cons, ih, Array.size_append, Nat.add_mul]
      omega
  intro n
  show ((List.replicate n z.cps).foldl (· ++ ·) #[]).size = _
  rw [key]
  show 0 + _ = _
  rw [Nat.zero_add]; rfl
def rMulS : R2 := fun x y H Q => ∃ z n, x = .str z ∧ y = .int n ∧ z.length ≤ 1000 ∧ 0 ≤ n ∧ n ≤ 1000 ∧ Q (.str (repS z n.toNat)) H
theorem op_mulS : OpR X (binaryOp .Mult) rMulS := by
  intro pins st σ H x y v u Q I rx ry h
  obtain ⟨z, n, rfl, rfl, h1, h2, h3, q⟩ := h
  obtain ⟨t, rfl⟩ := rx
  obtain ⟨t2, rfl⟩ := ry
  have hmul : z.length * n.toNat ≤ 1000000 := Nat.le_trans (Nat.mul_le_mul h1 (show n.toNat ≤ 1000 by omega)) (by decide)
  refine PySem.P.mul_str (by simp; omega) (fun hn hz => ?_) (fun hn hz => ?_) ?_
  · have h4 : (1000 : Int) ≤ (2 ^ 63 - 1) / n := Int.le_ediv_of_mul_le (by omega) (by omega)
    omega
  · have : z.length * n.toNat ≤ sizeLine := Nat.le_trans hmul (by rw [sizeLine_eq]; decide)
    exact decide_eq_false (by omega)
  · by_cases h0 : n < 1
    · have : n = 0 := by omega
      subst this
      rw [if_pos (by decide)]
      exact ⟨by decide, ⟨.str _, H, I.tok _, ⟨_, rfl⟩, q⟩⟩
    · rw [if_neg h0]
      by_cases h5 : (n == 1 || z.length == 0) = true
      · rw [if_pos h5]
        have e : repS z n.toNat = z := by
          rcases Bool.or_eq_true_iff.mp h5 with h6 | h6
          · have : n = 1 := by simpa using h6
            subst this
            show (⟨#[] ++ z.cps⟩ : Str) = z
            rw [Array.empty_append]
          · have h7 : z.length = 0 := by simpa using h6
            have h8 := repS_len z n.toNat
            rw [h7, Nat.mul_zero] at h8
            obtain ⟨cz⟩ := z
            have a1 : cz = #[] := Array.eq_empty_of_size_eq_zero h7
            have a2 : (repS ⟨cz⟩ n.toNat).cps = #[] := Array.eq_empty_of_size_eq_zero h8
            subst a1
            exact congrArg Str.mk a2
        rw [e] at q
        exact ⟨.str z, H, I, ⟨_, rfl⟩, q⟩
      · rw [if_neg h5]
        refine ⟨?_, ⟨.str _, H, I.tok _, ⟨_, rfl⟩, q⟩⟩
        show (repS z n.toNat).length ≤ _
        rw [repS_len, Nat.mul_comm]
        exact Nat.le_trans hmul (by rw [sizeLine_eq]; decide)
theorem jr_mulS {z : Str} {n : Int} (h1 : z.length ≤ 1000) (h2 : 0 ≤ n ∧ n ≤ 1000) (q : Φ (.d (.str (repS z n.toNat))) s) : JR X F (binaryOp .Mult) (.d (.str z)) (.d (.int n)) s Φ :=
  jr_of op_mulS fun as G H σ x y Q c v1 v2 k => by
    cases v1
    cases v2
    exact ⟨z, n, rfl, rfl, h1, h2.1, h2.2, k _ as G H _ s c (Ext.refl _ _) (Rep.str _) q⟩
/-! ### list(x), dict(x): new, frozen -/
theorem je_listD (g : GlB X "list") (h : JE X F a s fun e s1 => ∃ kd ds, s1.node e = some (kd, ds.map .d) ∧ (kd = .lst ∨ kd = .tup) ∧ Φ (.d (.nd .lst ds)) s1) (ns : NoStar a := by intro _ _; rfl) : JE X F (.Call (.Name "list" p) [a] [] pos) s Φ :=
  je_new (kd := .lst) (jn_listS g (h.mono fun e s1 ⟨kd, ds, h1, h2, h3⟩ => ⟨kd, _, h1, h2, rfl, ds, dsOf_map ds, h3⟩) ns) (.inr rfl)
theorem je_tupleD (g : GlB X "tuple") (h : JE X F a s fun e s1 => ∃ ds, s1.node e = some (.lst, ds.map .d) ∧ Φ (.d (.nd .tup ds)) s1) (ns : NoStar a := by intro _ _; rfl) : JE X F (.Call (.Name "tuple" p) [a] [] pos) s Φ :=
  je_new (kd := .tup) (jn_tupleL g (h.mono fun e s1 ⟨ds, h1, h3⟩ => ⟨_, h1, rfl, ds, dsOf_map ds, h3⟩) ns) (.inl rfl)
theorem je_dictD (g : GlB X "dict") (h : JE X F a s fun e s1 => ∃ ks ds, s1.node e = some (.dct ks, ds.map .d) ∧ Φ (.d (.nd (.dct ks) ds)) s1) (ns : NoStar a := by intro _ _; rfl) : JE X F (.Call (.Name "dict" p) [a] [] pos) s Φ := fun as G H σ Q c k =>
  sem_lock (PE.sem (pe_callTy call_dictD g.gl g.mg PyProof.Rows.boot_dict (pa_cons (pe_sem X a) pa_nil (ns _ _)) (he := ns _ _)) (h as G H σ _ c fun v as1 G1 H1 e1 s1 c1 x1 ve ⟨ks, ds, h1, h2⟩ => by
    obtain ⟨d, vs, rfl, ⟨n1, n2, od, n3⟩, ves⟩ := c1.node ve h1
    refine ⟨d, _, rfl, .inr ⟨od, n3⟩, fun q hq => ⟨q, _, upd_same, trivial, fun od' => ?_⟩⟩
    rw [upd_upd]
    have sg : Same G1 (upd G1 q (.frz od' (.dK (ks.zip vs)))) := same_new (c1.gnone hq)
    exact k _ as1 _ _ (.d (.nd (.dct ks) ds)) s1 (c1.addG hq) (x1.trans ⟨List.prefix_refl _, sg⟩) (.nd ⟨n1, n2, od', upd_same⟩ (ves.reps.mono sg)) h2))
/-- d.get(k, x) -/
theorem je_get2 {o : Expr} {apos : Pos} (bx : Bx X B) (h : JE X F o s fun eo s1 => (∃ kd0 es0, s1.node eo = some (.dct kd0, es0)) ∧ JE X F a s1 fun e1 s2 => JE X F b s2 fun e2 s3 => ∃ ks es kk, s3.node eo = some (.dct ks, es) ∧ keyE e1 = some kk ∧ Φ ((lk (ks.zip es) kk).getD e2) s3) (m : M2 X o "get" apos a b pos) :
    JE X F (.Call (.Attribute o "get" apos) [a, b] [] pos) s Φ :=
  je_of (pe_dget2 bx.hu (pe_sem X o) (pe_sem X a) (pe_sem X b) m) fun as G H σ Q c k => h as G H σ _ c fun v as1 G1 H1 eo s1 c1 x1 ve ⟨⟨kd0, es0, hn⟩, h1⟩ => by
    obtain ⟨d, vs0, rfl, ⟨m1, m2, od0, m3⟩, _⟩ := c1.node ve hn
    refine ⟨d, rfl, .inl ⟨_, .inr ⟨od0, m3⟩⟩, h1 as1 G1 H1 σ _ c1 fun v2 as2 G2 H2 e1 s2 c2 x2 ve2 h2 => h2 as2 G2 H2 σ _ c2 fun v3 as3 G3 H3 e2 s3 c3 x3 ve3 ⟨ks, es, kk, q1, q2, q3⟩ => ?_⟩
    obtain ⟨d', vs, e', ⟨n1, n2, od, n3⟩, ves⟩ := c3.node ((x2.trans x3).ve ve) q1
    cases e'
    obtain rfl := keyE_v q2 ve2
    refine ⟨_, .inl ⟨_, kk, .inr ⟨od, n3⟩, rfl, rfl⟩, ?_⟩
    obtain ⟨w1, w2⟩ := lk_val (k := kk) (ks := ks) ves
    cases hl : lk (ks.zip es) kk with
    | none =>
      rw [w2 hl]
      rw [hl] at q3
      exact k v3 as3 G3 H3 e2 s3 c3 ((x1.trans x2).trans x3) ve3 q3
    | some e' =>
      obtain ⟨v', h1, h2⟩ := w1 e' hl
      rw [h1]
      rw [hl] at q3
      exact k v' as3 G3 H3 e' s3 c3 ((x1.trans x2).trans x3) h2 q3
/-- d.clear(), d a name of an owned dict -/
theorem mt_clearZ : MtR X "dict.clear" (fun x vs H Q => ∃ (a : Addr) (od : Obj) (kvs : List (Key × V)), x = .ref a ∧ vs = [] ∧ H a = some (.frz od (.dK kvs)) ∧ (∀ o' u', X.H_0 a ≠ some (.frz o' u')) ∧ ∀ od', Q .non (upd H a (.frz od' (.dK [])))) := by
  intro pins st σ H x vs v us Q I rx rv h
  obtain ⟨a, od, kvs, rfl, rfl, ha, hn, q⟩ := h
  have I1 := I.unlock ha hn
  refine thn (mtd_clear pins st σ _ (.ref a) [] v us (fun y H' => y = .non ∧ H' = upd (upd H a (.dK kvs)) a (.dK [])) I1 rx rv ⟨a, kvs, rfl, rfl, upd_same, rfl, rfl⟩) fun y s' ⟨z, H', I2, rz, e1, e2⟩ => ?_
  subst e1 e2
  rw [upd_upd] at I2
  obtain ⟨od', I3⟩ := I2.lock (d := a) upd_same trivial
  rw [upd_upd] at I3
  exact ⟨.non, _, I3, rz, q od'⟩
theorem je_clear {i : Nat} {apos np : Pos} {ks : List Key} {es : List E} {j : Nat} (hH : X.H_0 = F.H0) (n : NmR X i x) (h1 : nth s.sl i = some (some (.r j))) (h2 : nth s.ce j = some (.nd (.dct ks) es)) (h3 : s.ar ≤ j) (q : Φ (.d .non) (s.put j (.dct []) []))
    (hbase : attributeBase (.Name x np) "clear" X.env (eval (.Name x np) X.env) = eval (.Name x np) X.env := by rfl) (hline : (apos.endLine == pos.line) = true := by rfl) : JE X F (.Call (.Attribute (.Name x np) "clear" apos) [] [] pos) s Φ := fun as G H σ Q c k => by
  rw [nth_eq] at h1 h2
  obtain ⟨v, g1, g2⟩ := c.slots i _ h1
  obtain ⟨a, ha, rfl⟩ := g2
  obtain ⟨a', vs, w1, ⟨w2, w3, od, w4⟩, w5⟩ := c.cells j _ _ h2
  rw [ha] at w1
  cases w1
  have nA : a ∉ F.A0 := fun z => by
    obtain ⟨l, hl⟩ := List.getElem?_of_mem z
    have q := pre_get c.pre hl
    obtain ⟨l1, e1⟩ := List.getElem?_eq_some_iff.mp q
    obtain ⟨l2, e2⟩ := List.getElem?_eq_some_iff.mp ha
    have := (List.getElem_inj c.nd).mp (e1.trans e2.symm)
    have l3 := (List.getElem?_eq_some_iff.mp hl).1
    rw [c.har] at l3
    omega
  have h0 : F.H0 a = none := (c.fresh a (List.mem_of_getElem? ha)).resolve_left nA
  have hn : ∀ o' u', X.H_0 a ≠ some (.frz o' u') := fun o' u' z => by rw [hH, h0] at z; cases z
  intro pins st I
  have I1 := I.unlock w4 hn
  refine thn ((pe_dclear (pe_var n.nm n.vis n.dbg n.cdt) hbase hline).run pins st σ _ (fun y H' => y = .non ∧ H' = upd (upd H a (.dK (ks.zip vs))) a (.dK [])) I1 ⟨_, g1, .inr (.inr (.inl ⟨rfl, .inl ⟨_, upd_same⟩⟩)), a, _, rfl, rfl, upd_same, rfl, rfl⟩) fun y s' ⟨z, H', I2, rz, e1, e2⟩ => ?_
  subst e1 e2
  rw [upd_upd] at I2
  obtain ⟨od', I3⟩ := I2.lock (d := a) upd_same trivial
  rw [upd_upd] at I3
  exact ⟨.non, _, I3, rz, k .non as G _ (.d .non) _ (c.put (kd := .dct []) (es := []) (vs := []) h2 ha ⟨rfl, List.nodup_nil, od', upd_same⟩ .nil) (Ext.refl _ _) Rep.non q⟩
end DL
namespace DL
open PySem PySem.Spec PyProof.Rows L2
/-! ### defs that own cells: any of the arguments, cells that refer to cells -/
def E.ren (f : Nat → Nat) : E → E
  | .d x => .d x
  | .r k => .r (f k)
def Cell.ren (f : Nat → Nat) : Cell → Cell
  | .gone => .gone
  | .nd kd es => .nd kd (es.map (E.ren f))
theorem ren_map (f : Nat → Nat) (ds : List D) : (ds.map E.d).map (E.ren f) = ds.map E.d := by rw [List.map_map]; rfl
/-- what is owned -/
structure Ow (K : PySem.W.Frag) (as : List Addr) (G H : Hp) (ce : List Cell) : Prop where
  len : as.length = ce.length
  nd : as.Nodup
  own : ∀ (k : Nat) (a : Addr) (kd : Kd) (es : List E), as[k]? = some a → ce[k]? = some (.nd kd es) → G a = none
  there : ∀ a ∈ as, H a ≠ none
  cells : ∀ (k : Nat) (kd : Kd) (es : List E), ce[k]? = some (.nd kd es) → ∃ a vs, as[k]? = some a ∧ CellAt H a vs kd ∧ VEs K G as vs es
abbrev RS := List Cell → List E → (E → List Cell → Prop) → Prop
def spS (K : PySem.W.Frag) (R : RS) : Sp := fun vs H Q _ => ∃ as ce es G, Same G H ∧ Ow K as G H ce ∧ VEs K G as vs es ∧
  R ce es fun e ce' => ∀ v as' G' H', as <+: as' → (∀ a ∈ as', a ∈ as ∨ H a = none) → (∀ b o, b ∉ as → H b = some o → H' b = some o) → Same G G' → Same G' H' → (∀ b, G b = none → H b ≠ none → G' b = none) → Ow K as' G' H' ce' → VE K G' as' v e → Q v H'
def MonoS (R : RS) : Prop := ∀ ce es p q, (∀ e c, p e c → q e c) → R ce es p → R ce es q
structure CaS (P : Program) (w : World) (K : PySem.W.Frag) (mg : Str → Option Value) (base : Heap) (x : Str) (k : Nat) (R : RS) : Prop where
  mono : MonoS R
  ex : ∃ f fd ps, mg x = some (.ref f) ∧ PySem.W.keepIn K (.ref f) = true ∧ Binds K fd ps [] ∧ FnOk P w K mg base CX0 k f fd ps (spS K R)
structure CbS (X : Cx) (x : Str) (k : Nat) (R : RS) : Prop where
  gl : Gl X x
  mono : MonoS R
  ex : ∃ f fd ps, X.mg x = some (.ref f) ∧ PySem.W.keepIn X.K (.ref f) = true ∧ Binds X.K fd ps [] ∧ FnOk X.prog X.w X.K X.mg X.base CX0 k f fd ps (spS X.K R)
theorem CaS.at {X : Cx} {P : Program} {w : World} {K : PySem.W.Frag} {mg : Str → Option Value} {base : Heap} {N : List Str} {sc : Scope} {k j : Nat} {x : Str} {R : RS} (c : CaS P w K mg base x j R) (h : XIs X P w K mg base N sc k)
    (h1 : sc.names.lookup x = some .globalImplicit) : CbS X x j R := by
  obtain ⟨e1, e2, e3, e4, e5, _⟩ := id h
  subst e1 e2 e3 e4 e5
  exact ⟨h.gl h1, c.mono, c.ex⟩
theorem Cz.ow {X : Cx} {F : Fr} {s : S} {as : List Addr} {G H : Hp} {σ : L2.St} (c : Cz X F as G H σ s) : Ow X.K as G H s.ce := ⟨c.len, c.nd, c.own, c.there, c.cells⟩
section
variable {P : Program} {w : World} {K : PySem.W.Frag} {mg : Str → Option Value} {base : Heap} {x qual : Str} {st : Stmt} {f : Addr} {fd : FuncData} {N ps : List Str} {k : Nat}
theorem fn_S {R : RS} (F : Fun K x qual st f fd) (S : FnScope N ps (defScope st)) (hlen : ∀ ce es post, R ce es post → es.length = ps.length)
    (body : ∀ (X : Cx) (F : Fr) (ce : List Cell) (es : List E) (post : E → List Cell → Prop), XIs X P w K mg base N (defScope st) k → (∀ y, X.fn y = true) → X.H_0 = F.H0 → R ce es post → JSs X F (defBody st) (entry N es ce ce.length)
      { nx := fun s => post (.d .non) s.ce, rt := fun e s => post e s.ce }) :
    FnOk P w K mg base CX0 (k + 1) f fd ps (spS K R) := by
  refine F.ok S (fun vs H Q E h => ?_) fun cdv A outer s H vs Q Ex hr h => ?_
  · obtain ⟨as, ce, es, G, _, _, ve, hR⟩ := h
    rw [Paired.length ve]; exact hlen ce es _ hR
  · obtain ⟨as, ce, es, G, sg, ow, ve, hR⟩ := h
    refine ⟨_, pss_sem _ _, ?_⟩
    refine body _ ⟨G, H, as⟩ ce es _ ⟨rfl, rfl, rfl, rfl, rfl, rfl, rfl, rfl, S.nd, rfl, hr⟩ (fun _ => rfl) rfl hR as G H _ _ ?_ ?_
    · refine ⟨sg, Same.refl _, fun _ h _ => h, fun _ _ h _ => h, ow.len, List.prefix_refl _, ow.nd, ow.own, fun a h => .inl h, ow.there, ow.cells, fun i e h => slots_entry ve N h, ?_, ow.len⟩
      show (es.map some ++ List.replicate (N.length - es.length) none).length = (L2.start N vs).length
      unfold L2.start
      simp [Paired.length ve]
    · have fin : ∀ {as' : List Addr} {G' H' : Hp} {σ' : L2.St} {s' : DL.S}, Cz (cxOf CX0 P w K mg base N qual (defScope st) f cdv A outer s H Ex).nox ⟨G, H, as⟩ as' G' H' σ' s' → ∀ b o, b ∉ as → H b = some o → H' b = some o := fun {as' G' H' σ' s'} c b o hb q => c.frame b o q hb
      exact ⟨fun as' G' H' σ' s' c x q => q .non as' G' H' c.pre c.fresh (fin c) c.base c.sub c.new c.ow .non, fun v as' G' H' σ' e' s' c x ve q => q v as' G' H' c.pre c.fresh (fin c) c.base c.sub c.new c.ow ve, fun _ _ _ _ _ _ _ q => q.elim, fun _ _ _ _ _ _ _ q => q.elim⟩
end
/-! the call -/
def jsF (js : List Nat) (len : Nat) (i : Nat) : Nat := match nth js i with
  | some j => j
  | none => len + (i - js.length)
def setMany : List Cell → List Nat → List Cell → List Cell
  | ce, [], _ => ce
  | ce, _ :: _, [] => ce
  | ce, j :: js, c :: cs => setMany (setN ce j c) js cs
termination_by structural _ js => js
theorem setMany_len : ∀ (js : List Nat) (ce cs : List Cell), (setMany ce js cs).length = ce.length
  | [], _, _ => rfl
  | _ :: _, _, [] => rfl
  | j :: js, ce, c :: cs => by unfold setMany; rw [setMany_len js, setN_eq, List.length_set]
theorem setMany_out : ∀ {js : List Nat} {ce cs : List Cell} {k : Nat}, k ∉ js → (setMany ce js cs)[k]? = ce[k]?
  | [], _, _, _, _ => rfl
  | _ :: _, _, [], _, _ => rfl
  | j :: js, ce, c :: cs, k, h => by
    simp only [List.mem_cons, not_or] at h
    unfold setMany
    rw [setMany_out h.2, setN_eq, List.getElem?_set_ne (fun z => h.1 z.symm)]
theorem setMany_in : ∀ {js : List Nat} {ce cs : List Cell} {i j : Nat} {c : Cell}, js.Nodup → (∀ j ∈ js, j < ce.length) → js[i]? = some j → cs[i]? = some c → (setMany ce js cs)[j]? = some c
  | [], _, _, _, _, _, _, _, h, _ => by simp at h
  | _ :: _, _, [], _, _, _, _, _, _, h => by simp at h
  | j0 :: js, ce, c0 :: cs, 0, j, c, hn, hb, h1, h2 => by
    simp at h1 h2
    subst h1 h2
    unfold setMany
    rw [setMany_out (List.nodup_cons.mp hn).1, setN_eq, List.getElem?_set_self (hb _ List.mem_cons_self)]
  | j0 :: js, ce, c0 :: cs, i + 1, j, c, hn, hb, h1, h2 => by
    simp at h1 h2
    unfold setMany
    exact setMany_in (List.nodup_cons.mp hn).2 (fun j hj => by rw [setN_eq, List.length_set]; exact hb j (List.mem_cons_of_mem _ hj)) h1 h2
def S.back (s : S) (js : List Nat) (ce : List Cell) : S := ⟨s.sl, setMany s.ce js ((ce.take js.length).map (Cell.ren (jsF js s.ce.length))) ++ (ce.drop js.length).map (Cell.ren (jsF js s.ce.length)), s.ar⟩
/-- the cells that go along, told in the callee's numbers -/
def Goes (s : S) (js : List Nat) (ce : List Cell) : Prop := js.Nodup ∧ (∀ j ∈ js, j < s.ce.length) ∧ js.length = ce.length ∧ (∀ (i j : Nat) (c : Cell), js[i]? = some j → ce[i]? = some c → s.ce[j]? = some (c.ren (jsF js s.ce.length))) ∧ ce.all (Cell.ltB ce.length) = true
variable {X : Cx} {F : Fr} {s : S}
theorem jsF_in {js : List Nat} {len i : Nat} (h : i < js.length) : js[i]? = some (jsF js len i) := by
  unfold jsF
  rw [nth_eq, List.getElem?_eq_getElem h]
theorem jsF_out {js : List Nat} {len i : Nat} (h : ¬ i < js.length) : jsF js len i = len + (i - js.length) := by
  unfold jsF
  rw [nth_eq, List.getElem?_eq_none (by omega)]
/-- the callee's addresses -/
def subA (as : List Addr) (js : List Nat) : List Addr := js.map fun j => as.getD j 0
theorem subA_get {as : List Addr} {js : List Nat} {i j : Nat} (hj : js[i]? = some j) (hb : j < as.length) : (subA as js)[i]? = as[j]? := by
  unfold subA
  rw [List.getElem?_map, hj, List.getElem?_eq_getElem hb]
  simp [List.getD, List.getElem?_eq_getElem hb]
theorem ve_in {K : PySem.W.Frag} {G : Hp} {as : List Addr} {js : List Nat} {len : Nat} {v : V} (hb : ∀ j ∈ js, j < as.length) : ∀ {e : E}, e.lt js.length = true → VE K G as v (e.ren (jsF js len)) → VE K G (subA as js) v e
  | .d _, _, h => h
  | .r i, hl, ⟨a, h1, h2⟩ => by
    have hi : i < js.length := by simpa [E.lt] using hl
    have hj := jsF_in (len := len) hi
    exact ⟨a, by rw [subA_get hj (hb _ (List.mem_of_getElem? hj))]; exact h1, h2⟩
theorem ves_in {K : PySem.W.Frag} {G : Hp} {as : List Addr} {js : List Nat} {len : Nat} (hb : ∀ j ∈ js, j < as.length) : ∀ {es : List E} {vs : List V}, es.all (E.lt js.length) = true → VEs K G as vs (es.map (E.ren (jsF js len))) → VEs K G (subA as js) vs es
  | [], _, _, .nil => .nil
  | e :: es, _, hl, .cons h t => by
    rw [List.all_cons, Bool.and_eq_true] at hl
    exact .cons (ve_in hb hl.1 h) (ves_in hb hl.2 t)
/-- behind the call -/
theorem ve_out {K : PySem.W.Frag} {G : Hp} {as as' : List Addr} {js : List Nat} {v : V} (hb : ∀ j ∈ js, j < as.length) (hp : subA as js <+: as') : ∀ {e : E}, VE K G as' v e → VE K G (as ++ as'.drop js.length) v (e.ren (jsF js as.length))
  | .d _, h => h
  | .r i, ⟨a, h1, h2⟩ => by
    refine ⟨a, ?_, h2⟩
    have hsl : (subA as js).length = js.length := List.length_map _
    by_cases hi : i < js.length
    · have hj := jsF_in (len := as.length) hi
      have hjb := hb _ (List.mem_of_getElem? hj)
      rw [List.getElem?_append_left hjb, ← subA_get hj hjb]
      obtain ⟨t, rfl⟩ := hp
      rw [List.getElem?_append_left (by omega)] at h1
      exact h1
    · rw [jsF_out hi, List.getElem?_append_right (by omega), List.getElem?_drop]
      have : js.length + (as.length + (i - js.length) - as.length) = i := by omega
      rw [this]
      exact h1
theorem ves_out {K : PySem.W.Frag} {G : Hp} {as as' : List Addr} {js : List Nat} (hb : ∀ j ∈ js, j < as.length) (hp : subA as js <+: as') : ∀ {es : List E} {vs : List V}, VEs K G as' vs es → VEs K G (as ++ as'.drop js.length) vs (es.map (E.ren (jsF js as.length)))
  | [], _, .nil => .nil
  | _ :: _, _, .cons h t => .cons (ve_out hb hp h) (ves_out hb hp t)
theorem subA_nd {as : List Addr} (nd : as.Nodup) : ∀ {js : List Nat}, js.Nodup → (∀ j ∈ js, j < as.length) → (subA as js).Nodup
  | [], _, _ => List.nodup_nil
  | j :: js, h, hb => by
    have ih := subA_nd nd (List.nodup_cons.mp h).2 fun j hj => hb j (List.mem_cons_of_mem _ hj)
    show (as.getD j 0 :: subA as js).Nodup
    rw [List.nodup_cons]
    refine ⟨fun z => ?_, ih⟩
    obtain ⟨l, hl, e⟩ := List.mem_map.mp z
    have b1 := hb j List.mem_cons_self
    have b2 := hb l (List.mem_cons_of_mem _ hl)
    simp only [List.getD, List.getElem?_eq_getElem b1, List.getElem?_eq_getElem b2, Option.getD_some] at e
    have := (List.getElem_inj nd).mp e
    subst this
    exact (List.nodup_cons.mp h).1 hl
theorem subA_mem {as : List Addr} {js : List Nat} {a : Addr} (hb : ∀ j ∈ js, j < as.length) (h : a ∈ subA as js) : ∃ i j : Nat, js[i]? = some j ∧ as[j]? = some a := by
  obtain ⟨j, hj, e⟩ := List.mem_map.mp h
  obtain ⟨i, hi⟩ := List.getElem?_of_mem hj
  refine ⟨i, j, hi, ?_⟩
  have b := hb j hj
  rw [List.getElem?_eq_getElem b]
  simp only [List.getD, List.getElem?_eq_getElem b, Option.getD_some] at e
  rw [e]
theorem ltB_cell {n : Nat} {ce : List Cell} (h : ce.all (Cell.ltB n) = true) {k : Nat} {kd : Kd} {es : List E} (q : ce[k]? = some (.nd kd es)) : es.all (E.lt n) = true :=
  List.all_eq_true.mp h _ (List.mem_of_getElem? q)
theorem Cz.goes {as : List Addr} {G H : Hp} {σ : L2.St} {js : List Nat} {ce : List Cell} (c : Cz X F as G H σ s) (g : Goes s js ce) : Ow X.K (subA as js) G H ce := by
  obtain ⟨g1, g2, g3, g4, g5⟩ := g
  have hb : ∀ j ∈ js, j < as.length := fun j hj => by rw [c.len]; exact g2 j hj
  have hjs : ∀ {k : Nat} {cl : Cell}, ce[k]? = some cl → js[k]? = some (jsF js s.ce.length k) ∧ jsF js s.ce.length k < as.length := fun {k cl} h => by
    have hk : k < js.length := by rw [g3]; exact (List.getElem?_eq_some_iff.mp h).1
    have := jsF_in (len := s.ce.length) hk
    exact ⟨this, hb _ (List.mem_of_getElem? this)⟩
  refine ⟨by unfold subA; rw [List.length_map, g3], subA_nd c.nd g1 hb, fun k a kd es h1 h2 => ?_, fun a ha => ?_, fun k kd es h => ?_⟩
  · obtain ⟨e1, e2⟩ := hjs h2
    rw [subA_get e1 e2] at h1
    have := g4 _ _ _ e1 h2
    exact c.own _ a kd _ h1 this
  · obtain ⟨i, j, _, h⟩ := subA_mem hb ha
    exact c.there a (List.mem_of_getElem? h)
  · obtain ⟨e1, e2⟩ := hjs h
    obtain ⟨a, vs, w1, w2, w3⟩ := c.cells _ kd _ (g4 _ _ _ e1 h)
    refine ⟨a, vs, by rw [subA_get e1 e2]; exact w1, w2, ves_in hb ?_ w3⟩
    rw [g3]
    exact ltB_cell g5 h
theorem Cz.ret {as as' : List Addr} {G H G' H' : Hp} {σ : L2.St} {js : List Nat} {ce ce' : List Cell} (c : Cz X F as G H σ s) (g : Goes s js ce) (h1 : subA as js <+: as') (h2 : ∀ a ∈ as', a ∈ subA as js ∨ H a = none) (h3 : ∀ b o, b ∉ subA as js → H b = some o → H' b = some o)
    (h4 : Same G G') (h5 : Same G' H') (h6 : ∀ b, G b = none → H b ≠ none → G' b = none) (ow : Ow X.K as' G' H' ce') : Cz X F (as ++ as'.drop js.length) G' H' σ (s.back js ce') := by
  obtain ⟨g1, g2, g3, g4, g5⟩ := g
  have hb : ∀ j ∈ js, j < as.length := fun j hj => by rw [c.len]; exact g2 j hj
  have hsl : (subA as js).length = js.length := List.length_map _
  have hle : js.length ≤ as'.length := by rw [← hsl]; exact h1.length_le
  have hsub : ∀ a ∈ subA as js, a ∈ as := fun a ha => by
    obtain ⟨i, j, _, h⟩ := subA_mem hb ha
    exact List.mem_of_getElem? h
  have as'i : ∀ {i : Nat}, i < js.length → as'[i]? = (subA as js)[i]? := fun {i} hi => by
    obtain ⟨t, rfl⟩ := h1
    rw [List.getElem?_append_left (by omega)]
  -- the new ones
  have hnew : ∀ a ∈ as'.drop js.length, H a = none := fun a ha => by
    refine (h2 a (List.mem_of_mem_drop ha)).resolve_left fun z => ?_
    obtain ⟨l, hl⟩ := List.getElem?_of_mem ha
    rw [List.getElem?_drop] at hl
    obtain ⟨i, hi⟩ := List.getElem?_of_mem z
    have hi2 : i < js.length := by rw [← hsl]; exact (List.getElem?_eq_some_iff.mp hi).1
    rw [← as'i hi2] at hi
    have := nodup_get ow.nd hi hl
    omega
  have cel : ∀ {k : Nat} {cl : Cell}, (s.back js ce').ce[k]? = some cl → (k < as.length ∧ k ∉ js ∧ s.ce[k]? = some cl) ∨ ∃ (i : Nat) (c0 : Cell), ce'[i]? = some c0 ∧ cl = c0.ren (jsF js s.ce.length) ∧ (as ++ as'.drop js.length)[k]? = as'[i]? := fun {k cl} q => by
    have q : (setMany s.ce js ((ce'.take js.length).map (Cell.ren (jsF js s.ce.length))) ++ (ce'.drop js.length).map (Cell.ren (jsF js s.ce.length)))[k]? = some cl := q
    have hsm : (setMany s.ce js ((ce'.take js.length).map (Cell.ren (jsF js s.ce.length)))).length = as.length := by rw [setMany_len, c.len]
    by_cases hk : k < as.length
    · rw [List.getElem?_append_left (by omega)] at q
      by_cases hj : k ∈ js
      · obtain ⟨i, hi⟩ := List.getElem?_of_mem hj
        have hi2 : i < js.length := (List.getElem?_eq_some_iff.mp hi).1
        have hi3 : i < ce'.length := by rw [← ow.len]; omega
        have e1 : ((ce'.take js.length).map (Cell.ren (jsF js s.ce.length)))[i]? = some (ce'[i].ren (jsF js s.ce.length)) := by
          rw [List.getElem?_map, List.getElem?_take_of_lt hi2, List.getElem?_eq_getElem hi3]; rfl
        rw [setMany_in g1 g2 hi e1] at q
        cases q
        refine .inr ⟨i, ce'[i], List.getElem?_eq_getElem hi3, rfl, ?_⟩
        rw [List.getElem?_append_left hk, as'i hi2, subA_get hi hk]
      · rw [setMany_out hj] at q
        exact .inl ⟨hk, hj, q⟩
    · rw [List.getElem?_append_right (by omega), hsm, List.getElem?_map, List.getElem?_drop] at q
      cases e : ce'[js.length + (k - as.length)]? with
      | none => rw [e] at q; cases q
      | some c0 =>
        rw [e] at q
        cases q
        exact .inr ⟨_, c0, e, rfl, by rw [List.getElem?_append_right (by omega), List.getElem?_drop]⟩
  have nd2 : (as ++ as'.drop js.length).Nodup := by
    rw [List.nodup_append]
    exact ⟨c.nd, ow.nd.sublist (List.drop_sublist _ _), fun a ha b hb e => c.there a ha (by rw [e]; exact hnew b hb)⟩
  have addr : ∀ {a : Addr}, a ∈ as → a ∉ subA as js → ∀ o, H a = some o → H' a = some o := fun {a} _ hn o ho => h3 a o hn ho
  refine ⟨h5, c.base.trans h4, fun b q1 q2 => ?_, fun b o q1 q2 => ?_, ?_, c.pre.trans ⟨_, rfl⟩, nd2, fun k a kd es q1 q2 => ?_, fun a ha => ?_, fun a ha => ?_, fun k kd es q => ?_, fun i e q => ?_, c.slen, c.har⟩
  · refine h6 b (c.new b q1 q2) fun z => ?_
    cases q : F.H0 b with
    | none => exact q2 q
    | some o =>
      by_cases hA : b ∈ F.A0
      · exact c.there b (c.pre.subset hA) z
      · have := c.frame b o q hA
        rw [z] at this; cases this
  · refine h3 b o (fun z => ?_) (c.frame b o q1 q2)
    rcases c.fresh b (hsub b z) with w | w
    · exact q2 w
    · rw [w] at q1; cases q1
  · show _ = (setMany s.ce js _ ++ _).length
    rw [List.length_append, List.length_append, setMany_len, List.length_map, List.length_drop, List.length_drop, c.len, ow.len]
  · rcases cel q2 with ⟨hk, _, q3⟩ | ⟨i, c0, q3, q4, q5⟩
    · rw [List.getElem?_append_left hk] at q1
      exact h6 a (c.own k a kd es q1 q3) (c.there a (List.mem_of_getElem? q1))
    · rw [q5] at q1
      cases c0 with
      | gone => cases q4
      | nd kd0 es0 => exact ow.own i a kd0 es0 q1 q3
  · rcases List.mem_append.mp ha with ha | ha
    · exact c.fresh a ha
    · exact .inr (c.h0none (hnew a ha))
  · rcases List.mem_append.mp ha with ha | ha
    · by_cases hm : a ∈ subA as js
      · exact ow.there a (h1.subset hm)
      · cases q : H a with
        | none => exact absurd q (c.there a ha)
        | some o => rw [h3 a o hm q]; exact fun z => nomatch z
    · exact ow.there a (List.mem_of_mem_drop ha)
  · rcases cel q with ⟨hk, hj, q3⟩ | ⟨i, c0, q3, q4, q5⟩
    · obtain ⟨a, vs, w1, w2, w3⟩ := c.cells k kd es q3
      refine ⟨a, vs, by rw [List.getElem?_append_left hk]; exact w1, w2.keep fun o ho => h3 a o (fun z => ?_) ho, w3.mono ⟨_, rfl⟩ h4⟩
      obtain ⟨i, j, z1, z2⟩ := subA_mem hb z
      have := nodup_get c.nd w1 z2
      subst this
      exact hj (List.mem_of_getElem? z1)
    · cases c0 with
      | gone => cases q4
      | nd kd0 es0 =>
        cases q4
        obtain ⟨a, vs, w1, w2, w3⟩ := ow.cells i kd es0 q3
        rw [← c.len]
        exact ⟨a, vs, by rw [q5]; exact w1, w2, ves_out hb h1 w3⟩
  · obtain ⟨v, w1, w2⟩ := c.slots i e q
    exact ⟨v, w1, w2.mono ⟨_, rfl⟩ h4⟩
/-- f(..): js the cells that go along -/
theorem je_callS {a : Expr} {es : List Expr} {Φ : E → S → Prop} {pos p : Pos} {x : Str} {k B : Nat} {R : RS} (cb : CbS X x k R) (bx : Bx X B) (hB : k ≤ B)
    (h : JA X F (a :: es) s fun vs s1 => ∃ js ce es0, Goes s1 js ce ∧ vs = es0.map (E.ren (jsF js s1.ce.length)) ∧ es0.all (E.lt js.length) = true ∧ R ce es0 fun e ce' => Φ (e.ren (jsF js s1.ce.length)) (s1.back js ce')) (hdb : (x == ("__debug__" : Str)) = false := by decide)
    (he : starEach (a :: es) X.env = (false, eval a X.env) :: starEach es X.env := by rfl) (hpl : (backTo pos (starEach es X.env)).any (·.1) = false := by rfl) : JE X F (.Call (.Name x p) (a :: es) [] pos) s Φ := by
  obtain ⟨f, fd, ps, h1, h2, h3, h4⟩ := cb.ex
  refine je_of (pe_call h4 (bx.room.mono hB) cb.gl h1 h2 h3 .nil pass0 (pa_sem X _) hdb he hpl) fun as G H σ Q c kk => h as G H σ _ c fun vs as1 G1 H1 es1 s1 c1 x1 ves ⟨js, ce, es0, g, q1, q2, hR⟩ => ?_
  rw [List.append_nil]
  subst q1
  have hb : ∀ j ∈ js, j < as1.length := fun j hj => by rw [c1.len]; exact g.2.1 j hj
  refine ⟨subA as1 js, ce, es0, G1, c1.sub, c1.goes g, ves_in hb q2 ves, cb.mono ce es0 _ _ (fun e ce' hr v as' G' H' w1 w2 w3 w4 w5 w6 ow ve => ?_) hR⟩
  have c2 := c1.ret g w1 w2 w3 w4 w5 w6 ow
  have ve2 := ve_out hb w1 ve
  rw [c1.len] at ve2
  exact kk v _ G' H' _ _ c2 (x1.trans ⟨⟨_, rfl⟩, w4⟩) ve2 hr
end DL
namespace DL
open PySem PySem.Spec PyProof.Rows L2
/-! ### defs whose first arguments are owned, their members frozen -/
abbrev RCs := List (Kd × List D) → List D → (Rt → List (Kd × List D) → Prop) → Prop
def ceOf (os : List (Kd × List D)) : List Cell := os.map fun o => Cell.nd o.1 (o.2.map E.d)
def rPost (n : Nat) (post : E → List Cell → Prop) (r : Rt) (os' : List (Kd × List D)) : Prop := os'.length = n → match r with
  | .dat x => post (.d x) (ceOf os')
  | .new kd ds => post (.r n) (ceOf os' ++ [.nd kd (ds.map .d)])
def RSn (R : RCs) : RS := fun ce es post => ∃ os ds, ce = ceOf os ∧ es = (List.range os.length).map E.r ++ ds.map E.d ∧ R os ds (rPost os.length post)
def MonoN (R : RCs) : Prop := ∀ os ds p q, (∀ r c, p r c → q r c) → R os ds p → R os ds q
theorem MonoN.s {R : RCs} (m : MonoN R) : MonoS (RSn R) := fun ce es p q h ⟨os, ds, e1, e2, hR⟩ => ⟨os, ds, e1, e2, m os ds _ _ (fun r c z hl => by
  have z := z hl
  cases r with
  | dat x => exact h _ _ z
  | new kd d2 => exact h _ _ z) hR⟩
/-- what stands in the first cells -/
def Owns (s : S) : Nat → List (Kd × List D) → Prop
  | _, [] => True
  | i, o :: r => (∃ es, nth s.ce i = some (.nd o.1 es) ∧ dsOf es = some o.2) ∧ Owns s (i + 1) r
theorem Owns.get {s : S} : ∀ {os : List (Kd × List D)} {i k : Nat} {o : Kd × List D}, Owns s i os → os[k]? = some o → s.ce[i + k]? = some (.nd o.1 (o.2.map .d))
  | [], _, _, _, _, h => by simp at h
  | o0 :: r, i, 0, o, ⟨⟨es, h1, h2⟩, _⟩, h => by
    simp at h
    subst h
    rw [nth_eq] at h1
    rw [Nat.add_zero, h1, dsOf_eq h2]
  | o0 :: r, i, k + 1, o, ⟨_, h2⟩, h => by
    simp at h
    have := h2.get h
    rw [Nat.add_assoc, Nat.add_comm 1 k] at this
    exact this
theorem ceOf_get {os : List (Kd × List D)} {i : Nat} {cl : Cell} (h : (ceOf os)[i]? = some cl) : ∃ o, os[i]? = some o ∧ cl = .nd o.1 (o.2.map .d) := by
  unfold ceOf at h
  rw [List.getElem?_map] at h
  cases e : os[i]? with
  | none => rw [e] at h; cases h
  | some o => rw [e] at h; cases h; exact ⟨o, rfl, rfl⟩
theorem lt_ds (n : Nat) (ds : List D) : (ds.map E.d).all (E.lt n) = true := by
  rw [List.all_map, List.all_eq_true]
  intro d _
  rfl
theorem ltB_ceOf (n : Nat) (os : List (Kd × List D)) : (ceOf os).all (Cell.ltB n) = true := by
  unfold ceOf
  rw [List.all_map, List.all_eq_true]
  intro o _
  exact lt_ds n o.2
section
variable {P : Program} {w : World} {K : PySem.W.Frag} {mg : Str → Option Value} {base : Heap} {x qual : Str} {st : Stmt} {f : Addr} {fd : FuncData} {N ps : List Str} {k : Nat}
/-- the body's end tells what goes back: the first cells, and more if wanted -/
theorem fn_S2 {R : RS} (F : Fun K x qual st f fd) (S : FnScope N ps (defScope st)) (hlen : ∀ ce es post, R ce es post → es.length = ps.length)
    (body : ∀ (X : Cx) (F : Fr) (ce : List Cell) (es : List E) (post : E → List Cell → Prop), XIs X P w K mg base N (defScope st) k → (∀ y, X.fn y = true) → X.H_0 = F.H0 → R ce es post → JSs X F (defBody st) (entry N es ce ce.length)
      { nx := fun s => ∃ r ce0, Goes s (List.range ce.length ++ r) ce0 ∧ post (.d .non) ce0, rt := fun e s => ∃ r ce0 e0, Goes s (List.range ce.length ++ r) ce0 ∧ e = e0.ren (jsF (List.range ce.length ++ r) s.ce.length) ∧ e0.lt (ce.length + r.length) = true ∧ post e0 ce0 }) :
    FnOk P w K mg base CX0 (k + 1) f fd ps (spS K R) := by
  refine F.ok S (fun vs H Q E h => ?_) fun cdv A outer s H vs Q Ex hr h => ?_
  · obtain ⟨as, ce, es, G, _, _, ve, hR⟩ := h
    rw [Paired.length ve]; exact hlen ce es _ hR
  · obtain ⟨as, ce, es, G, sg, ow, ve, hR⟩ := h
    refine ⟨_, pss_sem _ _, ?_⟩
    refine body _ ⟨G, H, as⟩ ce es _ ⟨rfl, rfl, rfl, rfl, rfl, rfl, rfl, rfl, S.nd, rfl, hr⟩ (fun _ => rfl) rfl hR as G H _ _ ?_ ?_
    · refine ⟨sg, Same.refl _, fun _ h _ => h, fun _ _ h _ => h, ow.len, List.prefix_refl _, ow.nd, ow.own, fun a h => .inl h, ow.there, ow.cells, fun i e h => slots_entry ve N h, ?_, ow.len⟩
      show (es.map some ++ List.replicate (N.length - es.length) none).length = (L2.start N vs).length
      unfold L2.start
      simp [Paired.length ve]
    · have key : ∀ {as' : List Addr} {G' H' : Hp} {σ' : L2.St} {s' : DL.S} {r : List Nat} {ce0 : List Cell}, Cz (cxOf CX0 P w K mg base N qual (defScope st) f cdv A outer s H Ex).nox ⟨G, H, as⟩ as' G' H' σ' s' → Goes s' (List.range ce.length ++ r) ce0 →
          as <+: subA as' (List.range ce.length ++ r) ∧ (∀ a ∈ subA as' (List.range ce.length ++ r), a ∈ as ∨ H a = none) ∧ (∀ b o, b ∉ as → H b = some o → H' b = some o) := fun {as' G' H' σ' s' r ce0} c g => by
        refine ⟨?_, fun a ha => ?_, fun b o hb q => c.frame b o q hb⟩
        · unfold subA
          rw [List.map_append]
          refine ⟨_, congrArg (· ++ r.map fun j => as'.getD j 0) ?_⟩
          apply List.ext_getElem?
          intro i
          by_cases hi : i < as.length
          · rw [List.getElem?_map, List.getElem?_range (by rw [← ow.len]; exact hi)]
            have := pre_get c.pre (List.getElem?_eq_getElem hi)
            rw [List.getElem?_eq_getElem hi]
            simp [List.getD, this]
          · rw [List.getElem?_eq_none (by omega), List.getElem?_eq_none (by rw [List.length_map, List.length_range, ← ow.len]; omega)]
        · obtain ⟨i, j, _, h⟩ := subA_mem (fun j hj => by rw [c.len]; exact g.2.1 j hj) ha
          exact c.fresh a (List.mem_of_getElem? h)
      refine ⟨fun as' G' H' σ' s' c x ⟨r, ce0, g, q⟩ => ?_, fun v as' G' H' σ' e' s' c x ve ⟨r, ce0, e0, g, h1, h2, q⟩ => ?_, fun _ _ _ _ _ _ _ q => q.elim, fun _ _ _ _ _ _ _ q => q.elim⟩
      · obtain ⟨k1, k2, k3⟩ := key c g
        exact q .non _ G' H' k1 k2 k3 c.base c.sub c.new (c.goes g) .non
      · obtain ⟨k1, k2, k3⟩ := key c g
        subst h1
        refine q v _ G' H' k1 k2 k3 c.base c.sub c.new (c.goes g) (ve_in (fun j hj => by rw [c.len]; exact g.2.1 j hj) ?_ ve)
        rw [List.length_append, List.length_range]; exact h2
def RtN (n : Nat) (post : Rt → Prop) : E → S → Prop
  | .d x, _ => post (.dat x)
  | .r k, s => ∃ kd es ds, nth s.ce k = some (.nd kd es) ∧ dsOf es = some ds ∧ n ≤ k ∧ post (.new kd ds)
theorem goes_owns {s : S} {os' : List (Kd × List D)} (h : Owns s 0 os') : Goes s (List.range os'.length) (ceOf os') := by
  have hg : ∀ {k : Nat} {o : Kd × List D}, os'[k]? = some o → s.ce[k]? = some (.nd o.1 (o.2.map .d)) := fun {k o} q => by
    have := h.get q
    rw [Nat.zero_add] at this
    exact this
  refine ⟨List.nodup_range, fun j hj => ?_, by rw [List.length_range]; unfold ceOf; rw [List.length_map], fun i j cl h1 h2 => ?_, ltB_ceOf _ _⟩
  · have hj := List.mem_range.mp hj
    exact (List.getElem?_eq_some_iff.mp (hg (List.getElem?_eq_getElem hj))).1
  · obtain ⟨o, h3, rfl⟩ := ceOf_get h2
    have hi := (List.getElem?_eq_some_iff.mp h3).1
    rw [List.getElem?_range hi] at h1
    cases h1
    rw [hg h3]
    show _ = some (Cell.nd o.1 ((o.2.map E.d).map _))
    rw [ren_map]
theorem goes_owns1 {s : S} {os' : List (Kd × List D)} (h : Owns s 0 os') {k : Nat} {kd : Kd} {ds : List D} (hk : s.ce[k]? = some (.nd kd (ds.map .d))) (hn : os'.length ≤ k) : Goes s (List.range os'.length ++ [k]) (ceOf os' ++ [.nd kd (ds.map .d)]) := by
  obtain ⟨g1, g2, g3, g4, g5⟩ := goes_owns h
  have hl : (ceOf os').length = os'.length := by unfold ceOf; rw [List.length_map]
  refine ⟨?_, fun j hj => ?_, by rw [List.length_append, List.length_append, g3]; rfl, fun i j cl h1 h2 => ?_, ?_⟩
  · rw [List.nodup_append]
    exact ⟨g1, by simp, fun a ha b hb e => by
      have : b = k := by simpa using hb
      subst this; subst e
      have := List.mem_range.mp ha
      omega⟩
  · rcases List.mem_append.mp hj with hj | hj
    · exact g2 j hj
    · have : j = k := by simpa using hj
      subst this
      exact (List.getElem?_eq_some_iff.mp hk).1
  · have cr : ∀ (f : Nat → Nat) (o : Kd × List D), (Cell.nd o.1 (o.2.map E.d)).ren f = .nd o.1 (o.2.map .d) := fun f o => by show Cell.nd o.1 _ = _; rw [ren_map]
    by_cases hi : i < os'.length
    · rw [List.getElem?_append_left (by rw [List.length_range]; exact hi)] at h1
      rw [List.getElem?_append_left (by omega)] at h2
      obtain ⟨o, h3, rfl⟩ := ceOf_get h2
      have := g4 i j _ h1 h2
      rw [cr] at this ⊢
      exact this
    · rw [List.getElem?_append_right (by rw [List.length_range]; omega)] at h1
      rw [List.getElem?_append_right (by omega), hl] at h2
      rw [List.length_range] at h1
      have h0 : i - os'.length = 0 := by
        have := (List.getElem?_eq_some_iff.mp h1).1
        simpa using this
      rw [h0] at h1 h2
      simp at h1 h2
      subst h1 h2
      rw [hk]
      exact congrArg some (cr _ (kd, ds)).symm
  · rw [List.all_append, ltB_ceOf]
    show (true && ([Cell.nd kd (ds.map E.d)]).all _) = true
    simp [Cell.ltB, lt_ds]
    intro x _; rfl
theorem fn_N {R : RCs} (F : Fun K x qual st f fd) (S : FnScope N ps (defScope st)) (hlen : ∀ os ds post, R os ds post → os.length + ds.length = ps.length)
    (body : ∀ (X : Cx) (F : Fr) (os : List (Kd × List D)) (ds : List D) (post : Rt → List (Kd × List D) → Prop), XIs X P w K mg base N (defScope st) k → (∀ y, X.fn y = true) → X.H_0 = F.H0 → R os ds post → JSs X F (defBody st) (entry N ((List.range os.length).map .r ++ ds.map .d) (ceOf os) os.length)
      { nx := fun s => ∃ os', Owns s 0 os' ∧ os'.length = os.length ∧ post (.dat .non) os', rt := fun e s => ∃ os', Owns s 0 os' ∧ os'.length = os.length ∧ RtN os.length (fun r => post r os') e s }) :
    FnOk P w K mg base CX0 (k + 1) f fd ps (spS K (RSn R)) := by
  refine fn_S2 F S (fun ce es post ⟨os, ds, e1, e2, hR⟩ => ?_) fun X F ce es post hX hfn hH ⟨os, ds, e1, e2, hR⟩ => ?_
  · rw [e2, List.length_append, List.length_map, List.length_range, List.length_map]; exact hlen os ds _ hR
  · subst e1 e2
    have hl : (ceOf os).length = os.length := by unfold ceOf; rw [List.length_map]
    rw [hl]
    refine JSs.mono (body X F os ds _ hX hfn hH hR) (fun s ⟨os', h2, h1, h3⟩ => ?_) (fun e s ⟨os', h2, h1, h3⟩ => ?_) (fun _ z => z) (fun _ z => z)
    · have g := goes_owns h2
      rw [h1] at g
      exact ⟨[], _, by rw [List.append_nil]; exact g, h3 h1⟩
    · cases e with
      | d y =>
        have g := goes_owns h2
        rw [h1] at g
        exact ⟨[], _, .d y, by rw [List.append_nil]; exact g, rfl, rfl, h3 h1⟩
      | r j =>
        obtain ⟨kd, es, d2, q1, q2, q3, q4⟩ := h3
        rw [nth_eq, dsOf_eq q2] at q1
        have g := goes_owns1 h2 q1 (by rw [h1]; exact q3)
        rw [h1] at g
        refine ⟨[j], _, .r os.length, g, ?_, ?_, q4 h1⟩
        · show E.r j = E.r (jsF _ _ os.length)
          congr 1
          unfold jsF
          rw [nth_eq, List.getElem?_append_right (by rw [List.length_range]; exact Nat.le_refl _)]
          simp
        · simp [E.lt]
end
/-! the call -/
variable {X : Cx} {F : Fr} {s : S}
def OwnsJ (s : S) : List Nat → List (Kd × List D) → Prop
  | [], [] => True
  | j :: js, o :: r => (∃ es, nth s.ce j = some (.nd o.1 es) ∧ dsOf es = some o.2) ∧ OwnsJ s js r
  | _, _ => False
theorem OwnsJ.len {s : S} : ∀ {js : List Nat} {os : List (Kd × List D)}, OwnsJ s js os → js.length = os.length
  | [], [], _ => rfl
  | _ :: _, _ :: _, ⟨_, h⟩ => by rw [List.length_cons, List.length_cons, h.len]
  | [], _ :: _, h => h.elim
  | _ :: _, [], h => h.elim
theorem OwnsJ.get {s : S} : ∀ {js : List Nat} {os : List (Kd × List D)} {i j : Nat}, OwnsJ s js os → js[i]? = some j → ∃ o, os[i]? = some o ∧ s.ce[j]? = some (.nd o.1 (o.2.map .d))
  | [], [], _, _, _, h => by simp at h
  | [], _ :: _, _, _, h, _ => h.elim
  | _ :: _, [], _, _, h, _ => h.elim
  | j0 :: js, o :: r, 0, j, ⟨⟨es, h1, h2⟩, _⟩, h => by
    simp at h
    subst h
    rw [nth_eq] at h1
    exact ⟨o, rfl, by rw [h1, dsOf_eq h2]⟩
  | j0 :: js, o :: r, i + 1, j, ⟨_, h2⟩, h => by
    simp at h
    obtain ⟨o', q1, q2⟩ := h2.get h
    exact ⟨o', by simpa using q1, q2⟩
def S.puts (s : S) : List Nat → List (Kd × List D) → S
  | [], _ => s
  | _ :: _, [] => s
  | j :: js, o :: r => S.puts (s.put j o.1 (o.2.map .d)) js r
termination_by structural js => js
theorem puts_eq : ∀ {js : List Nat} {os : List (Kd × List D)} {s : S}, s.puts js os = ⟨s.sl, setMany s.ce js (ceOf os), s.ar⟩
  | [], _, _ => rfl
  | _ :: _, [], _ => rfl
  | j :: js, o :: r, s => by
    show S.puts (s.put j o.1 (o.2.map .d)) js r = _
    rw [puts_eq]
    rfl
theorem ren_ceOf (f : Nat → Nat) (os : List (Kd × List D)) : (ceOf os).map (Cell.ren f) = ceOf os := by
  unfold ceOf
  rw [List.map_map]
  apply List.map_congr_left
  intro o _
  show Cell.nd o.1 _ = _
  rw [ren_map]
theorem je_callN {a : Expr} {es : List Expr} {Φ : E → S → Prop} {pos p : Pos} {x : Str} {k B : Nat} {R : RCs} (cb : CbS X x k (RSn R)) (bx : Bx X B) (hB : k ≤ B)
    (h : JA X F (a :: es) s fun vs s1 => ∃ js os ds, vs = js.map .r ++ ds.map .d ∧ js.Nodup ∧ OwnsJ s1 js os ∧ R os ds fun r os' => RtΦ Φ (s1.puts js os') r) (hdb : (x == ("__debug__" : Str)) = false := by decide)
    (he : starEach (a :: es) X.env = (false, eval a X.env) :: starEach es X.env := by rfl) (hpl : (backTo pos (starEach es X.env)).any (·.1) = false := by rfl) (hm : MonoN R := by assumption) : JE X F (.Call (.Name x p) (a :: es) [] pos) s Φ := by
  refine je_callS cb bx hB (fun as G H σ Q c kk => h as G H σ Q c fun vs as' G' H' es' s1 c' x ve ⟨js, os, ds, e1, nd, ow, hR⟩ => kk vs as' G' H' es' s1 c' x ve ?_) hdb he hpl
  have hl := ow.len
  have hb : ∀ j ∈ js, j < s1.ce.length := fun j hj => by
    obtain ⟨i, hi⟩ := List.getElem?_of_mem hj
    obtain ⟨o, _, h2⟩ := ow.get hi
    exact (List.getElem?_eq_some_iff.mp h2).1
  have hcl : (ceOf os).length = os.length := by unfold ceOf; rw [List.length_map]
  refine ⟨js, ceOf os, (List.range os.length).map .r ++ ds.map .d, ⟨nd, hb, by rw [hl, hcl], fun i j cl h1 h2 => ?_, ltB_ceOf _ _⟩, ?_, ?_, os, ds, rfl, rfl, hm os ds _ _ (fun r os' hr hl' => ?_) hR⟩
  · obtain ⟨o, h3, rfl⟩ := ceOf_get h2
    obtain ⟨o', h4, h5⟩ := ow.get h1
    rw [h3] at h4
    cases h4
    rw [h5]
    show _ = some (Cell.nd o.1 _)
    rw [ren_map]
  · rw [e1, List.map_append, ren_map, List.map_map]
    congr 1
    rw [← hl]
    apply List.ext_getElem?
    intro i
    by_cases hi : i < js.length
    · rw [List.getElem?_map, List.getElem?_map, List.getElem?_range hi, jsF_in (len := s1.ce.length) hi]
      rfl
    · rw [List.getElem?_eq_none (by rw [List.length_map]; omega), List.getElem?_eq_none (by rw [List.length_map, List.length_range]; omega)]
  · rw [List.all_append, lt_ds, Bool.and_true, List.all_map, List.all_eq_true]
    intro i hi
    have := List.mem_range.mp hi
    show decide (i < js.length) = true
    rw [hl]; exact decide_eq_true this
  · have hcl' : (ceOf os').length = os'.length := by unfold ceOf; rw [List.length_map]
    cases r with
    | dat y =>
      show Φ (.d y) (s1.back js (ceOf os'))
      have : s1.back js (ceOf os') = s1.puts js os' := by
        unfold S.back
        rw [puts_eq, List.take_of_length_le (by omega), List.drop_of_length_le (by omega), ren_ceOf, List.map_nil, List.append_nil]
      rw [this]; exact hr
    | new kd d2 =>
      show Φ (E.r (jsF js s1.ce.length os.length)) (s1.back js (ceOf os' ++ [.nd kd (d2.map .d)]))
      have e2 : jsF js s1.ce.length os.length = (s1.puts js os').ce.length := by
        rw [jsF_out (by omega), hl, Nat.sub_self, puts_eq]
        show _ = (setMany _ _ _).length
        rw [setMany_len]; rfl
      have e3 : s1.back js (ceOf os' ++ [.nd kd (d2.map .d)]) = (s1.puts js os').push kd (d2.map .d) := by
        unfold S.back
        rw [List.take_left' (by omega), List.drop_left' (by omega), ren_ceOf, puts_eq]
        show (⟨_, _ ++ [Cell.nd kd _], _⟩ : S) = ⟨_, _ ++ [Cell.nd kd _], _⟩
        rw [ren_map]
      rw [e2, e3]; exact hr
end DL
namespace DL
open PySem PySem.Spec PyProof.Rows L2
variable {X : Cx} {F : Fr} {s : S}
section
variable {e a b c : Expr} {es rest : List Expr} {Φ : E → S → Prop} {pos p p2 : Pos} {x : Str} {k B : Nat}
/-! ### owned arguments, step by step -/
def OnK (s : S) (vs : List E) (Q : List Nat → List (Kd × List D) → List D → Prop) : Prop := ∃ js os ds, vs = js.map .r ++ ds.map .d ∧ OwnsJ s js os ∧ Q js os ds
theorem on_ds {vs : List E} {ds : List D} {Q : List Nat → List (Kd × List D) → List D → Prop} (h : dsOf vs = some ds) (q : Q [] [] ds) : OnK s vs Q := ⟨[], [], ds, dsOf_eq h, trivial, q⟩
theorem on_r {vs : List E} {j : Nat} {kd : Kd} {es : List E} {ds : List D} {Q : List Nat → List (Kd × List D) → List D → Prop} (h1 : nth s.ce j = some (.nd kd es)) (h2 : dsOf es = some ds) (q : OnK s vs fun js os dd => Q (j :: js) ((kd, ds) :: os) dd) : OnK s (.r j :: vs) Q := by
  obtain ⟨js, os, dd, e1, e2, q⟩ := q
  exact ⟨j :: js, (kd, ds) :: os, dd, by rw [e1]; rfl, ⟨⟨es, h1, h2⟩, e2⟩, q⟩
theorem je_callNK {R : RCs} (cb : CbS X x k (RSn R)) (bx : Bx X B) (hB : k ≤ B) (hm : MonoN R)
    (h : JA X F (a :: es) s fun vs s1 => OnK s1 vs fun js os ds => js.Nodup ∧ R os ds fun r os' => RtΦ Φ (s1.puts js os') r) (hdb : (x == ("__debug__" : Str)) = false := by decide)
    (he : starEach (a :: es) X.env = (false, eval a X.env) :: starEach es X.env := by rfl) (hpl : (backTo pos (starEach es X.env)).any (·.1) = false := by rfl) : JE X F (.Call (.Name x p) (a :: es) [] pos) s Φ :=
  je_callN cb bx hB (fun as G H σ Q c kk => h as G H σ Q c fun vs as' G' H' es' s1 c' x ve ⟨js, os, ds, e1, e2, nd, q⟩ => kk vs as' G' H' es' s1 c' x ve ⟨js, os, ds, e1, nd, e2, q⟩) hdb he hpl hm
/-! ### in a list of texts -/
theorem inV_strs {z : Str} : ∀ ts : List Str, inV (.str z) (ts.map V.str) = decide (z ∈ ts)
  | [] => by simp [inV]
  | t :: ts => by
    have ih := inV_strs (z := z) ts
    unfold inV at ih ⊢
    rw [List.map_cons, List.any_cons, ih]
    by_cases h : z = t
    · subst h; simp [eqV]
    · have h2 : ¬ t = z := fun q => h q.symm
      simp [eqV, h, h2]
theorem flat_strs (ts : List Str) : (ts.map V.str).all flatV = true := by rw [List.all_map, List.all_eq_true]; intro t _; rfl
theorem reps_str {K : PySem.W.Frag} {G : Hp} : ∀ {ts : List Str} {vs : List V}, Reps K G vs (ts.map D.str) → vs = ts.map V.str
  | [], _, .nil => rfl
  | t :: ts, _, .cons a b => by cases a; rw [reps_str b]; rfl
theorem jr_inStrs {e2 : E} {z : Str} {kd : Kd} {ts : List Str} (h : s.node e2 = some (kd, (ts.map D.str).map .d)) (hk : kd = .lst ∨ kd = .tup) (q : Φ (.d (.bl (decide (z ∈ ts)))) s) : JR X F (compareOp .In) (.d (.str z)) e2 s Φ :=
  jr_of op_in_seq fun as G H σ x y Q c v1 v2 kk => by
    cases v1
    obtain ⟨a, vs, rfl, n, ves⟩ := c.node v2 h
    obtain rfl := reps_str ves.reps
    refine ⟨a, _, rfl, ?_, rfl, flat_strs ts, ?_⟩
    · rcases hk with rfl | rfl
      · exact .inl n
      · exact .inr n
    · rw [inV_strs]; exact kk _ as G H _ s c (Ext.refl _ _) (Rep.bl _) q
theorem jr_ninStrs {e2 : E} {z : Str} {kd : Kd} {ts : List Str} (h : s.node e2 = some (kd, (ts.map D.str).map .d)) (hk : kd = .lst ∨ kd = .tup) (q : Φ (.d (.bl (!decide (z ∈ ts)))) s) : JR X F (compareOp .NotIn) (.d (.str z)) e2 s Φ :=
  jr_of op_notIn_seq fun as G H σ x y Q c v1 v2 kk => by
    cases v1
    obtain ⟨a, vs, rfl, n, ves⟩ := c.node v2 h
    obtain rfl := reps_str ves.reps
    refine ⟨a, _, rfl, ?_, rfl, flat_strs ts, ?_⟩
    · rcases hk with rfl | rfl
      · exact .inl n
      · exact .inr n
    · rw [inV_strs]; exact kk _ as G H _ s c (Ext.refl _ _) (Rep.bl _) q
/-! ### ''.join(a list of texts) -/
theorem je_join {o : Expr} {apos : Pos} (h : JE X F o s fun eo s1 => ∃ sep, eo = .d (.str sep) ∧ JE X F a s1 fun e1 s2 => ∃ kd ts, s2.node e1 = some (kd, (ts.map D.str).map .d) ∧ (kd = .lst ∨ kd = .tup) ∧ (ts.map (·.length)).sum + ts.length * sep.length ≤ 16777216 ∧ Φ (.d (.str (Txt.join sep ts))) s2)
    (ns : NoStar a := by intro _ _; rfl) (hbase : attributeBase o "join" X.env (eval o X.env) = eval o X.env := by rfl) (hline : (apos.endLine == pos.line) = true := by rfl) : JE X F (.Call (.Attribute o "join" apos) [a] [] pos) s Φ :=
  je_of (pe_join (pe_sem X o) (pe_sem X a) (ns _ _) hbase hline) fun as G H σ Q c k => h as G H σ _ c fun v as1 G1 H1 eo s1 c1 x1 ve ⟨sep, q1, h1⟩ => by
    subst q1
    cases ve
    refine ⟨⟨sep, rfl⟩, h1 as1 G1 H1 σ _ c1 fun v2 as2 G2 H2 e2 s2 c2 x2 ve2 ⟨kd, ts, q2, q3, q4, q5⟩ => ?_⟩
    obtain ⟨a, vs, rfl, n, ves⟩ := c2.node ve2 q2
    obtain rfl := reps_str ves.reps
    refine ⟨sep, a, ts, rfl, rfl, ?_, q4, k _ as2 G2 H2 _ s2 c2 (x1.trans x2) (Rep.str _) q5⟩
    rcases q3 with rfl | rfl
    · exact .inl n
    · exact .inr n
/-! ### a, b = a list -/
theorem jg_lst {k1 : Nat} {v : E} {vs : List E} {Φ : S → Prop} (bx : Bx X B) (hn : s.node v = some (.lst, vs)) (hl : vs.length = es.length) (h : JGs X F es vs s Φ)
    (hn2 : (assignEach es X.env).length = es.length := by rfl) (hst : (assignEach es X.env).findIdx? (·.1) = none := by rfl) : JG X F (.Tuple es k1 p) v s Φ :=
  fun as G H σ u Q c ve k => by
    obtain ⟨a, ws, rfl, n, we⟩ := c.node ve hn
    exact PG.sem (pg_lst (n := es.length) bx.calm (pgs_sem X es) hn2 hst) ⟨a, ws, rfl, n, by rw [Paired.length we, hl], fun pins st us I r => h as G H σ ws Q c we k pins st us I r⟩
/-! ### list + list, slices -/
theorem op_catS : OpR X (binaryOp .Add) (fun x y H Q => ∃ l b xs zs, x = .ref l ∧ y = .ref b ∧ SqL X.K H l xs ∧ SqL X.K H b zs ∧ xs.length + zs.length ≤ sizeLine ∧ ∀ p, H p = none → Q (.ref p) (upd H p (.lst (xs ++ zs)))) := by
  intro pins s σ H x y v u Q I rx ry h
  obtain ⟨l, b, xs, zs, rfl, rfl, hH, hB, hz, q⟩ := h
  cases rx
  cases ry
  obtain ⟨its, r, ⟨⟨cls, dd, data, sl⟩, n, e, e3, e4, e5⟩, z⟩ := I.list hH
  obtain ⟨its2, r2, ⟨⟨cls2, dd2, data2, sl2⟩, n2, f, f3, f4, f5⟩, z2⟩ := I.list hB
  simp only at e3 e4 e5 f3 f4 f5
  subst e3 e4 e5 f3 f4 f5
  have hsz : its.length + its2.length ≤ sizeLine := by rw [← r.length, ← r2.length]; exact hz
  refine concat_meets ⟨_, e, rfl⟩ ⟨_, f, rfl⟩ noFill_list_add seq_list_add PySem.F.slot_list_add PySem.F.entry_list_add (PySem.F.args_list_add_2 _ _) (list_addW l b its.toArray its2.toArray n n2 .none .none sl sl2 (by simpa using hsz)) ⟨e, f, ?_⟩
  have ea : its.toArray ++ its2.toArray = (its ++ its2).toArray := by simp
  rw [ea]
  exact ⟨.ref _, _, I.lnew (t' := s.toks) (r.append r2) (by rw [List.length_append]; omega), rfl, q _ I.fresh⟩
/-- xs + ys, lists: a new one, frozen -/
theorem jr_cat {e1 e2 : E} {ds1 ds2 : List D} (h1 : s.node e1 = some (.lst, ds1.map .d)) (h2 : s.node e2 = some (.lst, ds2.map .d)) (hl : ds1.length + ds2.length ≤ sizeLine) (q : Φ (.d (.nd .lst (ds1 ++ ds2))) s) : JR X F (binaryOp .Add) e1 e2 s Φ :=
  jr_of op_catS fun as G H σ x y Q c v1 v2 k => by
    obtain ⟨a, vs, rfl, n1, w1⟩ := c.node v1 h1
    obtain ⟨b, ws, rfl, n2, w2⟩ := c.node v2 h2
    refine ⟨a, b, vs, ws, rfl, rfl, n1, n2, by rw [w1.reps.length, w2.reps.length]; exact hl, fun p hp => ?_⟩
    have sg : Same G (upd G p (.lst (vs ++ ws))) := same_new (c.gnone hp)
    exact k _ as _ _ (.d (.nd .lst (ds1 ++ ds2))) s (c.addG hp) ⟨List.prefix_refl _, sg⟩ (.nd (SqL.of upd_same) ((w1.reps.append w2.reps).mono sg)) q
/-- xs[lo:hi] -/
def cutD (ds : List D) (lo hi : Option Int) : List D := (ds.drop (HT.sIx ds.length 0 lo)).take (HT.sIx ds.length ds.length hi - HT.sIx ds.length 0 lo)
theorem reps_cut {K : PySem.W.Frag} {G : Hp} {vs : List V} {ds : List D} (r : Reps K G vs ds) (lo hi : Option Int) : Reps K G (cutV vs lo hi) (cutD ds lo hi) := by
  unfold cutV cutD
  rw [r.length]
  exact (r.drop _).take _
theorem je_sliceL {lo hi : Option Expr} {p2 : Pos} (h : JE X F a s fun e s1 => JO X F lo s1 fun l s2 => JO X F hi s2 fun u s3 => ∃ ds, s3.node e = some (.lst, ds.map .d) ∧ Φ (.d (.nd .lst (cutD ds l u))) s3) : JE X F (.Subscript a (.Slice lo hi none p2) pos) s Φ :=
  je_of (pe_slice sl_list (pe_sem X a) (po_sem X lo) (po_sem X hi)) fun as G H σ Q c k => h as G H σ _ c fun v as1 G1 H1 e1 s1 c1 x1 ve h1 => jo_run h1 c1 fun l as2 G2 H2 s2 c2 x2 h2 => jo_run h2 c2 fun u as3 G3 H3 s3 c3 x3 ⟨ds, q1, q2⟩ => by
    obtain ⟨a, vs, rfl, n, w⟩ := c3.node ((x2.trans x3).ve ve) q1
    refine ⟨a, vs, rfl, n, fun p hp => ?_⟩
    have sg : Same G3 (upd G3 p (.lst (cutV vs l u))) := same_new (c3.gnone hp)
    exact k _ as3 _ _ (.d (.nd .lst (cutD ds l u))) s3 (c3.addG hp) (((x1.trans x2).trans x3).trans ⟨List.prefix_refl _, sg⟩) (.nd (SqL.of upd_same) ((reps_cut w.reps l u).mono sg)) q2
end
end DL
namespace DL
open PySem PySem.Spec PyProof.Rows L2
variable {X : Cx} {F : Fr} {s : S}
/-! ### the last cell frozen and dropped -/
def TidyB (s : S) : Bool := s.sl.all (E.ltB s.ce.length) && s.ce.all (Cell.ltB s.ce.length) && decide (s.ar ≤ s.ce.length)
theorem Cz.popT {as' : List Addr} {G' H' : Hp} {σ : L2.St} {kd : Kd} {ds : List D} (c' : Cz X F as' G' H' σ (s.push kd (ds.map .d))) (ht : TidyB s = true) :
    ∃ G2, Cz X F (as'.take s.ce.length) G2 H' σ s ∧ Same G' G2 ∧ ∀ q, as'[s.ce.length]? = some q → Rep X.K G2 (.ref q) (.nd kd ds) := by
  unfold TidyB at ht
  simp only [Bool.and_eq_true, decide_eq_true_eq] at ht
  obtain ⟨⟨t1, t2⟩, t3⟩ := ht
  have w : Wk (s.push kd (ds.map .d)) s := ⟨fun i e h => h, rfl, ⟨_, rfl⟩, rfl, t3⟩
  have c2 := c'.weak' w t1 t2
  obtain ⟨q, hq⟩ : ∃ q, as'[s.ce.length]? = some q := by
    have : s.ce.length < as'.length := by
      rw [c'.len]
      show _ < (s.ce ++ [Cell.nd kd (ds.map .d)]).length
      simp
    exact ⟨_, List.getElem?_eq_getElem this⟩
  have hce : (s.push kd (ds.map .d)).ce[s.ce.length]? = some (.nd kd (ds.map .d)) := by
    show (s.ce ++ [Cell.nd kd (ds.map .d)])[s.ce.length]? = _
    rw [List.getElem?_append_right (Nat.le_refl _)]; simp
  obtain ⟨q', vs, g1, g2, g3⟩ := c'.cells _ _ _ hce
  rw [hq] at g1
  cases g1
  obtain ⟨o, ho⟩ := g2.some
  have gn : G' q = none := c'.own _ _ _ _ hq hce
  have nin : q ∉ as'.take s.ce.length := fun z => by
    obtain ⟨j, hj⟩ := List.getElem?_of_mem z
    have l3 := (List.getElem?_eq_some_iff.mp hj).1
    rw [List.length_take] at l3
    rw [List.getElem?_take_of_lt (by omega)] at hj
    have := nodup_get c'.nd hj hq
    omega
  have h0 : F.H0 q = none := (c'.fresh q (List.mem_of_getElem? hq)).resolve_left fun z => by
    have := c2.pre.subset z
    exact nin this
  refine ⟨upd G' q o, c2.frzG ho gn nin h0, same_new gn, fun q2 hq2 => ?_⟩
  rw [hq] at hq2
  cases hq2
  have cg : CellAt (upd G' q o) q vs kd := g2.keep fun u z => by rw [upd_same, ← ho, z]
  exact .nd cg.node (g3.reps.mono (same_new gn))
section
variable {e a b c elt iter : Expr} {es rest ifs : List Expr} {Φ : E → S → Prop} {pos p p2 : Pos} {x : Str} {k B : Nat} {scope : Scope} {own : List (Str × Nat)} {j : Nat}
theorem je_popT (h : JE X F e s fun e1 s1 => ∃ s0 kd ds, e1 = .r s0.ce.length ∧ s1 = s0.push kd (ds.map .d) ∧ s.ce.length ≤ s0.ce.length ∧ TidyB s0 = true ∧ Φ (.d (.nd kd ds)) s0) : JE X F e s Φ := fun as G H σ Q c k =>
  h as G H σ Q c fun v as1 G1 H1 e1 s1 c1 x1 ve ⟨s0, kd, ds, q1, q2, q3, q4, q5⟩ => by
    subst q1 q2
    obtain ⟨G2, c2, sg, rep⟩ := c1.popT q4
    obtain ⟨q, hq, rfl⟩ := ve
    refine k _ _ G2 H1 _ s0 c2 ⟨?_, x1.sub.trans sg⟩ (rep q hq) q5
    obtain ⟨t, rfl⟩ := x1.pre
    rw [List.take_append]
    have : as.length ≤ s0.ce.length := by rw [c.len]; exact q3
    rw [List.take_of_length_le this]
    exact ⟨_, rfl⟩
/-! ### comprehensions whose elements write to owned cells -/
/-- the state in the block -/
def S.blkI (t : S) (ds : List D) (j : Nat) (v : E) : S := (t.push .lst (ds.map .d)).set j v
def LcI (X : Cx) (F : Fr) (tg iter elt : Expr) (scope : Scope) (vs : List Nat) (j : Nat) (s : S) (Θ : List D → S → Prop) : Prop :=
  JI X F tg iter s fun n it s1 => n ≤ 16000000 ∧ ∃ In : Nat → List D → S → Prop, In 0 [] (s1.wipe vs) ∧
    (∀ i v ds t, i < n → it i v → ds.length = i → In i ds t → t.wipe vs = t ∧ t.ce.length = s1.ce.length ∧ ∀ Y, IsBlk X scope Y → JE Y F elt (t.blkI ds j v) fun y s3 => ∃ d t', y = .d d ∧ s3 = t'.blkI ds j v ∧ t'.wipe vs = t' ∧ t'.ce.length = s1.ce.length ∧ In (i + 1) (ds ++ [d]) t') ∧
    ∀ ds t, ds.length = n → In n ds t → t.ce.length = s1.ce.length ∧ Θ ds ⟨s1.sl, t.ce, s1.ar⟩
theorem lc_imp {Θ : List D → S → Prop} (hj : j ∈ own.map (·.2)) {n : Nat} {it : Nat → E → Prop} {s1 : S} {In : Nat → List D → S → Prop} (hn : n ≤ 16000000) (w0 : (s1.wipe (own.map (·.2))).wipe (own.map (·.2)) = s1.wipe (own.map (·.2))) (h0 : In 0 [] (s1.wipe (own.map (·.2))))
    (ht : ∀ i v ds t, i < n → it i v → ds.length = i → In i ds t → t.wipe (own.map (·.2)) = t ∧ t.ce.length = s1.ce.length ∧ ∀ Y, IsBlk X scope Y → JE Y F elt (t.blkI ds j v) fun y s3 => ∃ d t', y = .d d ∧ s3 = t'.blkI ds j v ∧ t'.wipe (own.map (·.2)) = t' ∧ t'.ce.length = s1.ce.length ∧ In (i + 1) (ds ++ [d]) t') :
    let In' : Nat → List E → S → Prop := fun i acc s' => ∃ ds t, ds.length = i ∧ acc = ds.map .d ∧ s' = t.push .lst acc ∧ t.wipe (own.map (·.2)) = t ∧ t.ce.length = s1.ce.length ∧ In i ds t
    In' 0 [] ((s1.wipe (own.map (·.2))).push .lst []) ∧
      (∀ i v acc s', i < n → it i v → In' i acc s' → nth s'.ce s1.ce.length = some (.nd .lst acc) ∧ ∀ Y, IsBlk X scope Y → JTs Y F ([] : List Expr) (s'.set j v) fun b s2 =>
        if b = true then ∀ Y2, IsBlk X scope Y2 → JE Y2 F elt s2 fun y s3 => nth s3.ce s1.ce.length = some (.nd .lst acc) ∧ acc.length < sizeLine ∧ In' (i + 1) (acc ++ [y]) ((s3.put s1.ce.length .lst (acc ++ [y])).wipe (own.map (·.2)))
        else In' (i + 1) acc (s2.wipe (own.map (·.2)))) := by
  intro In'
  have cel : ∀ (t : S) (l : List E), t.ce.length = s1.ce.length → nth (t.push .lst l).ce s1.ce.length = some (.nd .lst l) := fun t l hl => by
    rw [nth_eq]
    show (t.ce ++ [Cell.nd .lst l])[s1.ce.length]? = _
    rw [← hl, List.getElem?_append_right (Nat.le_refl _)]
    simp
  refine ⟨⟨[], _, rfl, rfl, rfl, w0, rfl, h0⟩, ?_⟩
  rintro i v acc s' hi hv ⟨ds, t, hdl, rfl, rfl, hw, hl, hI⟩
  obtain ⟨_, _, hJ⟩ := ht i v ds t hi hv hdl hI
  refine ⟨cel t _ hl, fun Y hY => ?_⟩
  dsimp only [JTs]
  refine L2.iteT ?_
  refine fun Y2 hY2 => (hJ Y2 hY2).mono fun y s3 ⟨d, t', e1, e2, e3, e4, e5⟩ => ?_
  subst e1 e2
  refine ⟨cel t' _ e4, by rw [List.length_map, sizeLine_eq]; omega, ds ++ [d], t', by simp [hdl], by simp, ?_, e3, e4, e5⟩
  have hput : ((t'.push .lst (ds.map .d)).set j v).put s1.ce.length .lst (ds.map .d ++ [.d d]) = (t'.push .lst (ds.map .d ++ [.d d])).set j v := by
    show (⟨_, setN (t'.ce ++ [Cell.nd .lst _]) s1.ce.length _, _⟩ : S) = ⟨_, t'.ce ++ [_], _⟩
    rw [setN_eq, ← e4, List.set_append_right _ _ (Nat.le_refl _)]
    simp
    exact ⟨rfl, rfl⟩
  show (((t'.push .lst (ds.map .d)).set j v).put s1.ce.length .lst (ds.map .d ++ [.d d])).wipe _ = _
  rw [hput, set_wipe hj]
  have e6 : wipeN t'.sl (own.map (·.2)) = t'.sl := congrArg S.sl e3
  show (⟨wipeN t'.sl _, _, _⟩ : S) = ⟨t'.sl, _, _⟩
  rw [e6]
  rfl
/-- [..], owned -/
theorem je_lcI (bx : Bx X B) (ok : BlkOk X.N X.env.scope scope own) (hj : j ∈ own.map (·.2)) (hn : ∀ Y, IsBlk X scope Y → NmW Y j x)
    (h : LcI X F (.Name x p) iter elt scope (own.map (·.2)) j s fun ds t => Φ (.r t.ce.length) (t.push .lst (ds.map .d)))
    (hs : ∀ x, foldedSetIterable iter X.env x = pure x := by intro _; rfl) : JE X F (.ListComp elt [⟨.Name x p, iter, [], 0⟩] scope pos) s Φ := by
  refine je_lc bx ok hj hn (fun as G H σ R c k => h as G H σ R c fun J as1 G1 H1 s1 n it c1 x1 okJ ⟨q1, In, q2, q3, q4⟩ => ?_) hs
  have z := lc_imp (Θ := fun _ _ => True) hj q1 wipe_wipe q2 q3
  refine k J as1 G1 H1 s1 n it c1 x1 okJ ⟨_, z.1, z.2, ?_⟩
  rintro acc s' ⟨ds, t, hdl, rfl, rfl, hw, hl, hI⟩
  obtain ⟨e1, e2⟩ := q4 ds t hdl hI
  rw [← e1]
  exact e2
/-- .. frozen -/
theorem je_lcF (bx : Bx X B) (ok : BlkOk X.N X.env.scope scope own) (hj : j ∈ own.map (·.2)) (hn : ∀ Y, IsBlk X scope Y → NmW Y j x)
    (h : LcI X F (.Name x p) iter elt scope (own.map (·.2)) j s fun ds t => s.ce.length ≤ t.ce.length ∧ TidyB t = true ∧ Φ (.d (.nd .lst ds)) t)
    (hs : ∀ x, foldedSetIterable iter X.env x = pure x := by intro _; rfl) : JE X F (.ListComp elt [⟨.Name x p, iter, [], 0⟩] scope pos) s Φ :=
  je_popT (je_lcI bx ok hj hn (fun as G H σ R c k => h as G H σ R c fun J as1 G1 H1 s1 n it c1 x1 okJ ⟨q1, In, q2, q3, q4⟩ => k J as1 G1 H1 s1 n it c1 x1 okJ ⟨q1, In, q2, q3, fun ds t hd hI => by
    obtain ⟨e1, e2, e3, e4⟩ := q4 ds t hd hI
    exact ⟨e1, _, _, ds, rfl, rfl, e2, e3, e4⟩⟩) hs)
/-- name = [..] on one line, owned -/
theorem js_setLcI {i : Nat} {y : Str} {py spos : Pos} {P : Po} (bx : Bx X B) (ny : NmW X i y) (ly : X.env.scope.names.lookup y = some .local) (hsw : swapsWith (.ListComp elt [⟨.Name x p, iter, [], 0⟩] scope pos) (some (.Name y py)) spos.line X.env = pure true)
    (ok : BlkOk X.N X.env.scope scope own) (hj : j ∈ own.map (·.2)) (hn : ∀ Y, IsBlk X scope Y → NmW Y j x)
    (h : LcI X F (.Name x p) iter elt scope (own.map (·.2)) j s fun ds t => P.nx ((t.push .lst (ds.map .d)).set i (.r t.ce.length)))
    (hs : ∀ x, foldedSetIterable iter X.env x = pure x := by intro _; rfl) : JS X F (.Assign [.Name y py] (.ListComp elt [⟨.Name x p, iter, [], 0⟩] scope pos) spos) s P := by
  refine js_setLc bx ny ly hsw ok hj hn (fun as G H σ R c k => h as G H σ R c fun J as1 G1 H1 s1 n it c1 x1 okJ ⟨q1, In, q2, q3, q4⟩ => ?_) hs
  have z := lc_imp (Θ := fun _ _ => True) hj q1 wipe_wipe q2 q3
  refine k J as1 G1 H1 s1 n it c1 x1 okJ ⟨_, z.1, z.2, ?_⟩
  rintro acc s' ⟨ds, t, hdl, rfl, rfl, hw, hl, hI⟩
  obtain ⟨e1, e2⟩ := q4 ds t hdl hI
  rw [← e1]
  exact e2
end
end DL
namespace DL
open PySem PySem.Spec PyProof.Rows L2
variable {X : Cx} {F : Fr} {s : S}
section
variable {elt iter kx vx c0 : Expr} {scope : Scope} {own : List (Str × Nat)} {pos p : Pos} {x : Str} {j B : Nat} {Φ : E → S → Prop}
/-! ### a dict comprehension with a test -/
def dcT (kf : Nat → Key) (f : Nat → D) (g : Nat → Bool) : Nat → List Key × List D
  | 0 => ([], [])
  | n + 1 => if g n = true then (dpK (dcT kf f g n).1 (kf n), dpV (dcT kf f g n).1 (dcT kf f g n).2 (kf n) (f n)) else dcT kf f g n
theorem dcT_ok (kf : Nat → Key) (f : Nat → D) (g : Nat → Bool) : ∀ n, (dcT kf f g n).1.length = (dcT kf f g n).2.length ∧ (dcT kf f g n).1.Nodup ∧ (dcT kf f g n).1.length ≤ n
  | 0 => ⟨rfl, List.nodup_nil, Nat.le_refl _⟩
  | n + 1 => by
    obtain ⟨h1, h2, h3⟩ := dcT_ok kf f g n
    unfold dcT
    split
    · refine ⟨dpV_len h1, dpK_nodup h2, ?_⟩
      show (dpK (dcT kf f g n).1 (kf n)).length ≤ n + 1
      unfold dpK
      split
      · omega
      · simp; omega
    · exact ⟨h1, h2, by omega⟩
theorem dcT_keys (kf : Nat → Key) (f : Nat → D) (g : Nat → Bool) : ∀ n, ∀ k ∈ (dcT kf f g n).1, ∃ i, i < n ∧ k = kf i
  | 0, k, h => by cases h
  | n + 1, k, h => by
    unfold dcT at h
    split at h
    · have h : k ∈ dpK (dcT kf f g n).1 (kf n) := h
      unfold dpK at h
      split at h
      · obtain ⟨i, h1, h2⟩ := dcT_keys kf f g n k h
        exact ⟨i, by omega, h2⟩
      · rcases List.mem_append.mp h with h | h
        · obtain ⟨i, h1, h2⟩ := dcT_keys kf f g n k h
          exact ⟨i, by omega, h2⟩
        · exact ⟨n, by omega, by simpa using h⟩
    · obtain ⟨i, h1, h2⟩ := dcT_keys kf f g n k h
      exact ⟨i, by omega, h2⟩
/-- the keys all different -/
theorem dcT_inj {kf : Nat → Key} {f : Nat → D} {g : Nat → Bool} : ∀ {n : Nat}, (∀ i j, i < j → j < n → kf i ≠ kf j) → dcT kf f g n = (((List.range n).filter g).map kf, ((List.range n).filter g).map f)
  | 0, _ => rfl
  | n + 1, h => by
    have ih := dcT_inj (f := f) (g := g) (n := n) fun i j h1 h2 => h i j h1 (by omega)
    have hm : ¬ memK (kf n) (dcT kf f g n).1 = true := fun z => by
      obtain ⟨i, h1, h2⟩ := dcT_keys kf f g n _ (memK_iff.mp z)
      exact h i n h1 (by omega) h2.symm
    rw [List.range_succ, List.filter_append]
    show (if g n = true then _ else _) = _
    by_cases hg : g n = true
    · rw [if_pos hg]
      unfold dpK dpV
      rw [if_neg hm, if_neg hm, ih]
      simp [List.filter_cons, hg]
    · rw [if_neg hg, ih]
      simp [List.filter_cons, hg]
def DcT (X : Cx) (F : Fr) (tg iter c0 kx vx : Expr) (scope : Scope) (vs : List Nat) (j : Nat) (s : S) (Φ : List Key → List D → Prop) : Prop :=
  JI X F tg iter s fun n it s1 => s1 = s ∧ n ≤ 16000000 ∧ ∃ (kf : Nat → Key) (f : Nat → D) (g : Nat → Bool), (∀ i v, i < n → it i v → (∀ Y F, IsBlk X scope Y → JT Y F c0 (s.dblk vs j v) fun b s3 => b = g i ∧ s3 = s.dblk vs j v) ∧ (g i = true → Pure1 X scope kx (s.dblk vs j v) (kD (kf i)) ∧ Pure1 X scope vx (s.dblk vs j v) (f i))) ∧ Φ (dcT kf f g n).1 (dcT kf f g n).2
theorem dcT_read {Φ : List Key → List D → Prop} (hj : j ∈ own.map (·.2)) (h : DcT X F (.Name x p) iter c0 kx vx scope (own.map (·.2)) j s Φ) :
    ∀ as G H σ (Q : VK), Cz X F as G H σ s → (∀ D as' G' H' vs ks ds, Cz X F as' G' H' σ s → Ext as as' G G' → H' D = some (.dK (ks.zip vs)) → G' D = none → D ∉ as' → F.H0 D = none → Reps X.K G' vs ds → ks.length = vs.length → ks.Nodup → Φ ks ds → Q (.ref D) H') →
      tDc (semI X (.Name x p) iter) (gName j) (ttB X scope [c0]) (teB X scope kx) (teB X scope vx) (own.map (·.2)) σ H Q := by
  refine fun as G H σ Q c k => h as G H σ _ c fun J as1 G1 H1 s1 n it c1 x1 okJ ⟨q1, q2, kf, f, g, q3, q4⟩ => ?_
  subst q1
  intro D hD
  have gD := c1.gnone hD
  have nD := c1.notin hD
  have hD0 := c1.h0none hD
  -- the state of a turn
  have keep : ∀ {as' : List Addr} {G' H' : Hp} {σ' : L2.St} {s' : S} {o : HO}, Cz X F as' G' H' σ' s' → G' D = none → D ∉ as' → F.H0 D = none → Cz X F as' G' (upd H' D o) σ' s' := fun {as' G' H' σ' s' o} c' g' n' h0 => by
    refine ⟨fun b u q => ?_, c'.base, c'.new, fun b u w1 w2 => ?_, c'.len, c'.pre, c'.nd, c'.own, c'.fresh, fun a ha => ?_, fun l kd es q => ?_, c'.slots, c'.slen, c'.har⟩
    · rw [upd_ne (ne_of_none q g')]; exact c'.sub b u q
    · rw [upd_ne (ne_of_none w1 h0)]; exact c'.frame b u w1 w2
    · rw [upd_ne (fun z => n' (by rw [← z]; exact ha))]; exact c'.there a ha
    · obtain ⟨a, ws, w1, w2, w3⟩ := c'.cells l kd es q
      exact ⟨a, ws, w1, w2.keep fun u z => by rw [upd_ne (fun z => n' (by rw [← z]; exact List.mem_of_getElem? w1))]; exact z, w3⟩
  have c1' := keep (o := .dK []) (c1.wipe (own.map (·.2))) gD nD hD0
  refine ⟨fun i m H' => m = n - i ∧ i ≤ n ∧ ∃ as' G' vs, Cz X F as' G' H' (wipe σ (own.map (·.2))) (s1.wipe (own.map (·.2))) ∧ Ext as1 as' G1 G' ∧ H' D = some (.dK ((dcT kf f g i).1.zip vs)) ∧ G' D = none ∧ D ∉ as' ∧ Reps X.K G' vs (dcT kf f g i).2, ⟨n, by simp, Nat.zero_le _, as1, G1, [], c1', Ext.refl _ _, upd_same, gD, nD, .nil⟩, ?_⟩
  rintro i m H' ⟨rfl, hi, as', G', vs, c', x', hd, g', n', rs⟩
  by_cases hlt : i < n
  · refine .inr ⟨okJ.go i as' G' H' _ _ hlt c' x'.sub, fun H2 => ∃ as' G' vs, Cz X F as' G' H2 (wipe σ (own.map (·.2))) (s1.wipe (own.map (·.2))) ∧ Ext as1 as' G1 G' ∧ H2 D = some (.dK ((dcT kf f g (i + 1)).1.zip vs)) ∧ G' D = none ∧ D ∉ as' ∧ Reps X.K G' vs (dcT kf f g (i + 1)).2, fun H2 ⟨as2, G2, vs2, w⟩ => ⟨n - (i + 1), by omega, rfl, hlt, as2, G2, vs2, w⟩, fun v H2 y => ?_⟩
    obtain ⟨G2, e, c2, ⟨x2, gk⟩, ve, hv⟩ := okJ.yld i as' G' H' _ _ v H2 hlt c' x'.sub y
    have hd2 : H2 D = _ := okJ.keep i as' G' H' _ _ v H2 hlt c' x'.sub y D _ hd
    have g2 : G2 D = none := gk D (by rw [hd]; exact fun z => nomatch z) g'
    obtain ⟨t0, t12⟩ := q3 i e hlt hv
    have c3 := c2.set (i := j) ve
    have ws : wipe ((wipe σ (own.map (·.2))).set j (some v)) (own.map (·.2)) = wipe σ (own.map (·.2)) := wipe_same (by rw [List.length_set, wipe_length]) fun l hl => by
      rw [List.getElem?_set_ne (fun z => hl (by rw [← z]; exact hj)), wipe_out' hl]
    have c4 := c3.enter
    refine ⟨ws, fun Y hY pins st I => jts_run (ifs := [c0]) (t0 Y _ hY) (cz_blk hY c4) (fun bb asT GT HT sT cT xT ⟨w1, w2⟩ => ?_) pins st I⟩
    subst w1 w2
    have cT := cz_ublk hY cT
    have gT : GT D = none := cT.new D g2 (by show H2 D ≠ none; rw [hd2]; exact fun z => nomatch z)
    have dT : HT D = _ := cT.frame D _ hd2 n'
    have nT : D ∉ asT := fun z => by
      rcases cT.fresh D z with z | z
      · exact n' z
      · rw [show H2 D = none from z] at hd2; cases hd2
    have cT := c3.leave cT
    have es0 : (S.wipe ⟨(s1.dblk (own.map (·.2)) j e).sl, (s1.dblk (own.map (·.2)) j e).ce, s1.ar⟩ (own.map (·.2))) = s1.wipe (own.map (·.2)) := by
      show (((s1.wipe (own.map (·.2))).set j e).wipe (own.map (·.2))) = _
      rw [set_wipe hj, wipe_wipe]
    by_cases hg : g i = true
    rotate_left
    · have hg : g i = false := by simpa using hg
      rw [hg]
      simp only [Bool.false_eq_true, if_false]
      have c6 := cT.wipe (own.map (·.2))
      rw [ws] at c6
      have c6 : Cz X F asT GT HT (wipe σ (own.map (·.2))) (s1.wipe (own.map (·.2))) := es0 ▸ c6
      have e0 : dcT kf f g (i + 1) = dcT kf f g i := by show (if g i = true then _ else _) = _; rw [if_neg (by rw [hg]; exact Bool.false_ne_true)]
      refine ⟨asT, GT, vs, c6, (x'.trans ⟨List.prefix_refl _, x2⟩).trans xT, ?_, gT, nT, ?_⟩
      · rw [e0]; exact dT
      · rw [e0]; exact rs.mono (x2.trans xT.sub)
    obtain ⟨t1, t2⟩ := t12 hg
    rw [hg]
    simp only [if_true]
    have eT : dcT kf f g (i + 1) = (dpK (dcT kf f g i).1 (kf i), dpV (dcT kf f g i).1 (dcT kf f g i).2 (kf i) (f i)) := by show (if g i = true then _ else _) = _; rw [if_pos hg]
    rw [eT]
    refine fun Y2 hY2 => t1 Y2 _ hY2 asT GT HT _ _ (cz_blk hY2 cT.enter) fun y as5 G5 H5 y' s5 c5 x5 ve5 ⟨w1, w2⟩ => ?_
    subst w1 w2
    have ve5 := rep_kV ve5
    subst ve5
    have c5 := cz_ublk hY2 c5
    have g5 : G5 D = none := c5.new D gT (by show HT D ≠ none; rw [dT]; exact fun z => nomatch z)
    have d5 : H5 D = _ := c5.frame D _ dT nT
    have n5 : D ∉ as5 := fun z => by
      rcases c5.fresh D z with z | z
      · exact nT z
      · rw [show HT D = none from z] at dT; cases dT
    have c5 := cT.leave c5
    refine fun Y3 hY3 => t2 Y3 _ hY3 as5 G5 H5 _ _ (cz_blk hY3 c5.enter) fun y as6 G6 H6 y' s6 c6 x6 ve6 ⟨w1, w2⟩ => ?_
    subst w1 w2
    have ve6 : Rep Y3.K G6 y (f i) := ve6
    rw [hY3.K] at ve6
    have c6 := cz_ublk hY3 c6
    have g6 : G6 D = none := c6.new D g5 (by show H5 D ≠ none; rw [d5]; exact fun z => nomatch z)
    have d6 : H6 D = _ := c6.frame D _ d5 n5
    have n6 : D ∉ as6 := fun z => by
      rcases c6.fresh D z with z | z
      · exact n5 z
      · rw [show H5 D = none from z] at d5; cases d5
    have c6 := (c5.leave c6).wipe (own.map (·.2))
    rw [ws] at c6
    have es : (S.wipe ⟨(s1.dblk (own.map (·.2)) j e).sl, (s1.dblk (own.map (·.2)) j e).ce, s1.ar⟩ (own.map (·.2))) = s1.wipe (own.map (·.2)) := by
      show (((s1.wipe (own.map (·.2))).set j e).wipe (own.map (·.2))) = _
      rw [set_wipe hj, wipe_wipe]
    have c6 : Cz X F as6 G6 H6 (wipe σ (own.map (·.2))) (s1.wipe (own.map (·.2))) := es ▸ c6
    obtain ⟨l1, l2, l3⟩ := dcT_ok kf f g i
    have ll : (dcT kf f g i).1.length = vs.length := by rw [l1, rs.length]
    refine ⟨_, kf i, rfl, d6, ?_, as6, G6, dpV (dcT kf f g i).1 vs (kf i) y, keep c6 g6 n6 hD0, ?_, ?_, g6, n6, ?_⟩
    · rw [List.length_zip, ← ll, Nat.min_self, sizeLine_eq]; omega
    · exact (x'.trans ⟨List.prefix_refl _, x2⟩).trans (xT.trans (x5.trans x6))
    · rw [upd_same, putK_zip ll]
    · exact reps_dpV ve6 (rs.mono (((x2.trans xT.sub).trans x5.sub).trans x6.sub))
  · have e : i = n := by omega
    subst e
    obtain ⟨l1, l2, l3⟩ := dcT_ok kf f g i
    exact .inl ⟨okJ.stop as' G' H' _ _ c' x'.sub, k D as' G' H' vs _ _ (show Cz X F as' G' H' σ ⟨s1.sl, (s1.wipe (own.map (·.2))).ce, s1.ar⟩ from c1.back c' x') (x1.trans x') hd g' n' hD0 rs (by rw [l1, rs.length]) l2 q4⟩
/-- {k: v for x in iter if c}, pure: the dict, frozen -/
theorem je_dcT (bx : Bx X B) (ok : BlkOk X.N X.env.scope scope own) (hj : j ∈ own.map (·.2)) (hn : ∀ Y, IsBlk X scope Y → NmW Y j x)
    (h : DcT X F (.Name x p) iter c0 kx vx scope (own.map (·.2)) j s fun ks ds => Φ (.d (.nd (.dct ks) ds)) s)
    (hs : ∀ x, foldedSetIterable iter X.env x = pure x := by intro _; rfl) : JE X F (.DictComp kx vx [⟨.Name x p, iter, [c0], 0⟩] scope pos) s Φ := fun as G H σ Q c k =>
  sem_lock (PE.sem (pe_dc bx.calm bx.nd (pi_sem X _ iter) ok (pg_B hn) pts_B pe_B pe_B hs) (dcT_read hj h as G H σ _ c fun D as' G' H' vs ks ds c' x' hd gD nD h0 rs l nd q =>
    ⟨D, _, hd, trivial, fun od => by
      obtain ⟨c2, sg, rep⟩ := frz_dct (od := od) c' gD nD h0 rs l nd
      exact k _ as' _ _ _ s c2 (x'.trans ⟨List.prefix_refl _, sg⟩) rep q⟩))
end
end DL
namespace DL
open PySem PySem.Spec PyProof.Rows L2
variable {X : Cx} {F : Fr} {s : S}
/-! ### sizes -/
def Bd (k : Nat) (x : Int) : Prop := x.natAbs < 2 ^ k
theorem Bd.mul {a b : Nat} {x y : Int} (h1 : Bd a x) (h2 : Bd b y) : Bd (a + b) (x * y) := wide_lt h1 h2
theorem Bd.mono {a b : Nat} {x : Int} (h : Bd a x) (l : a ≤ b) : Bd b x := Nat.lt_of_lt_of_le h (Nat.pow_le_pow_right (by decide) l)
theorem Bd.le {a : Nat} {x y : Int} (h : Bd a x) (l : y.natAbs ≤ x.natAbs) : Bd a y := Nat.lt_of_le_of_lt l h
theorem Bd.sub {a : Nat} {x y : Int} (h1 : Bd a x) (h2 : Bd a y) : Bd (a + 1) (x - y) := by
  unfold Bd at *
  rw [Nat.pow_succ]
  omega
theorem Bd.add {a : Nat} {x y : Int} (h1 : Bd a x) (h2 : Bd a y) : Bd (a + 1) (x + y) := by
  unfold Bd at *
  rw [Nat.pow_succ]
  omega
theorem Bd.neg {a : Nat} {x : Int} (h : Bd a x) : Bd a (-x) := by unfold Bd at *; rw [Int.natAbs_neg]; exact h
theorem Bd.lg {a : Nat} {x : Int} (h : Bd a x) (h0 : 0 < a) : x.natAbs.log2 < a := PySem.Flt.log2_lt_of h0 h
theorem Bd.cmul {a b : Nat} {x y : Int} (h1 : Bd a x) (h2 : Bd b y) (h0 : 0 < a) (h3 : 0 < b) (h : a + b ≤ 1000000) : CMul x y ∨ CMulW x y := .inr (wide_mul h1 h2 h0 h3 h)
theorem Bd.cdiv {a : Nat} {x y : Int} (h1 : Bd a y) (h : 0 < y) (h0 : 0 < a) (h9 : a ≤ 9000) : CDiv x y ∨ CDivW x y := .inr ⟨h, Nat.lt_of_lt_of_le (h1.lg h0) h9⟩
/-! ### fractions as the core's rationals -/
def frQ (x : Rat) : D := .nd .tup [.int x.num, .int x.den]
theorem frQ_inj {x y : Rat} (h : frQ x = frQ y) : x = y := by
  unfold frQ at h
  injection h with _ h
  injection h with h1 h2
  injection h2 with h2 _
  injection h1 with h1
  injection h2 with h2
  exact Rat.ext h1 (by omega)
structure QB (k : Nat) (x : Rat) : Prop where
  n : Bd k x.num
  d : x.den < 2 ^ k
theorem QB.db {k : Nat} {x : Rat} (h : QB k x) : Bd k (x.den : Int) := by unfold Bd; rw [Int.natAbs_natCast]; exact h.d
theorem QB.mono {k l : Nat} {x : Rat} (h : QB k x) (hl : k ≤ l) : QB l x := ⟨h.n.mono hl, Nat.lt_of_lt_of_le h.d (Nat.pow_le_pow_right (by decide) hl)⟩
theorem den_pos' (x : Rat) : (0 : Int) < x.den := by have := x.den_pos; omega
theorem sign_pos {q : Int} (h : 0 < q) : q.sign = 1 := Int.sign_eq_one_of_pos h
/-- (p // g, q // g) -/
theorem frQ_div {p q : Int} (hq : 0 < q) : D.nd .tup [.int (p / (Int.gcd p q : Nat)), .int (q / (Int.gcd p q : Nat))] = frQ (Rat.divInt p q) := by
  unfold frQ
  rw [Rat.num_divInt, Rat.den_divInt, sign_pos hq, Int.one_mul, Int.gcd_comm q p, if_neg (by omega)]
  have : ((q.natAbs / Int.gcd p q : Nat) : Int) = q / (Int.gcd p q : Nat) := by
    rw [Int.natCast_ediv]
    congr 1
    omega
  rw [this]
theorem divInt_neg2 (p q : Int) : Rat.divInt (-p) (-q) = Rat.divInt p q := by
  rw [Rat.divInt_eq_div, Rat.divInt_eq_div, Rat.intCast_neg, Rat.intCast_neg]
  rw [Rat.div_def, Rat.div_def]
  grind
theorem QB.div {k : Nat} {p q : Int} (h1 : Bd k p) (h2 : Bd k q) (hq : 0 < q) : QB k (Rat.divInt p q) := by
  refine ⟨?_, ?_⟩
  · rw [Rat.num_divInt, sign_pos hq, Int.one_mul]
    exact h1.le (Int.natAbs_ediv_le_natAbs _ _)
  · rw [Rat.den_divInt, if_neg (by omega)]
    exact Nat.lt_of_le_of_lt (Nat.div_le_self _ _) h2
theorem q_add (x y : Rat) : Rat.divInt (x.num * y.den + y.num * x.den) (x.den * y.den) = x + y := by
  rw [Rat.add_def', ← Rat.divInt_ofNat, Int.natCast_mul]
theorem q_sub (x y : Rat) : Rat.divInt (x.num * y.den - y.num * x.den) (x.den * y.den) = x - y := by
  rw [Rat.sub_def', ← Rat.divInt_ofNat, Int.natCast_mul]
theorem q_mul (x y : Rat) : Rat.divInt (x.num * y.num) (x.den * y.den) = x * y := by
  rw [Rat.mul_def', ← Rat.divInt_ofNat, Int.natCast_mul]
theorem q_self (x : Rat) : Rat.divInt x.num x.den = x := by rw [Rat.divInt_ofNat, Rat.mkRat_self]
theorem q_over (x y : Rat) : Rat.divInt (x.num * y.den) (x.den * y.num) = x / y := by
  rw [Rat.div_def, Rat.inv_def, ← Rat.divInt_mul_divInt, q_self]
theorem QB.add {k l : Nat} {x y : Rat} (h1 : QB k x) (h2 : QB l y) : QB (k + l + 1) (x + y) := by
  rw [← q_add]
  refine QB.div (((h1.n.mul h2.db)).add ((h2.n.mul h1.db).mono (by omega))) ((h1.db.mul h2.db).mono (by omega)) (Int.mul_pos (den_pos' x) (den_pos' y))
theorem QB.sub {k l : Nat} {x y : Rat} (h1 : QB k x) (h2 : QB l y) : QB (k + l + 1) (x - y) := by
  rw [← q_sub]
  refine QB.div (((h1.n.mul h2.db)).sub ((h2.n.mul h1.db).mono (by omega))) ((h1.db.mul h2.db).mono (by omega)) (Int.mul_pos (den_pos' x) (den_pos' y))
theorem QB.mul {k l : Nat} {x y : Rat} (h1 : QB k x) (h2 : QB l y) : QB (k + l) (x * y) := by
  rw [← q_mul]
  exact QB.div (h1.n.mul h2.n) (h1.db.mul h2.db) (Int.mul_pos (den_pos' x) (den_pos' y))
theorem QB.neg {k : Nat} {x : Rat} (h : QB k x) : QB k (-x) := ⟨by rw [Rat.neg_num]; exact h.n.neg, by rw [Rat.neg_den]; exact h.d⟩
theorem q_pos (x y : Rat) : (0 : Int) < x.den * y.den := Int.mul_pos (den_pos' x) (den_pos' y)
/-! == of fractions -/
theorem dp_frQ {K : PySem.W.Frag} {G H : Hp} {as : List Addr} {v : V} {x : Rat} (sg : Same G H) (ve : VE K G as v (.d (frQ x))) : L2.Dp K H v (.tuple [.int x.num, .int x.den]) := by
  have ve : Rep K G v (.nd .tup [.int x.num, .int x.den]) := ve
  cases ve with
  | nd n r =>
    cases r with
    | cons a r =>
      cases r with
      | cons b r =>
        cases r
        cases a
        cases b
        exact .tup (n.mono sg) (.cons (.int _) (.cons (.int _) .nil))
theorem shaped_frQ (i j : Int) : SeqAt.shaped (.tuple [.int i, .int j]) = true := by rfl
theorem eqv_frQ (x y : Rat) : PyData.eqv (.tuple [.int x.num, .int x.den]) (.tuple [.int y.num, .int y.den]) = decide (x = y) := by
  show ((x.num == y.num) && (((x.den : Int) == (y.den : Int)) && true)) = _
  by_cases h : x = y
  · subst h; simp
  · rw [decide_eq_false h]
    by_cases h1 : x.num = y.num
    · have h2 : ¬ (x.den : Int) = y.den := fun z => h (Rat.ext h1 (by omega))
      simp [h2]
    · simp [h1]
theorem jr_eqQ {B : Nat} {x y : Rat} {Φ : E → S → Prop} (bx : Bx X B) (q : Φ (.d (.bl (decide (x = y)))) s) : JR X F (compareOp .Eq) (.d (frQ x)) (.d (frQ y)) s Φ :=
  jr_of (op_eqD bx.room.units) fun as G H σ v w Q c v1 v2 k =>
    ⟨_, _, dp_frQ c.sub v1, dp_frQ c.sub v2, shaped_frQ _ _, shaped_frQ _ _, by rw [eqv_frQ]; exact k _ as G H _ s c (Ext.refl _ _) (Rep.bl _) q⟩
theorem jr_neQ {B : Nat} {x y : Rat} {Φ : E → S → Prop} (bx : Bx X B) (q : Φ (.d (.bl (!decide (x = y)))) s) : JR X F (compareOp .NotEq) (.d (frQ x)) (.d (frQ y)) s Φ :=
  jr_of (op_neD bx.room.units) fun as G H σ v w Q c v1 v2 k =>
    ⟨_, _, dp_frQ c.sub v1, dp_frQ c.sub v2, shaped_frQ _ _, shaped_frQ _ _, by rw [eqv_frQ]; exact k _ as G H _ s c (Ext.refl _ _) (Rep.bl _) q⟩
end DL
namespace DL
open PySem PySem.Spec PyProof.Rows L2
/-! ### finite maps by text, as lists of pairs -/
abbrev FM (α : Type) := List (Str × α)
variable {α : Type} {f : α → D}
abbrev FM.ks (m : FM α) : List Str := m.map (·.1)
def FM.get (m : FM α) (k : Str) : Option α := (m.find? fun p => decide (p.1 = k)).map (·.2)
def FM.put (m : FM α) (k : Str) (v : α) : FM α := if k ∈ m.ks then m.map (fun p => if p.1 = k then (p.1, v) else p) else m ++ [(k, v)]
def fmK (m : FM α) : List Key := m.ks.map Sum.inr
def fmV (f : α → D) (m : FM α) : List D := m.map fun p => f p.2
def fmD (f : α → D) (m : FM α) : D := .nd (.dct (fmK m)) (fmV f m)
theorem fmK_len (m : FM α) : (fmK m).length = m.length := by unfold fmK FM.ks; simp
theorem fmV_len (m : FM α) : (fmV f m).length = m.length := by unfold fmV; simp
theorem fmK_mem {m : FM α} {k : Str} : (Sum.inr k : Key) ∈ fmK m ↔ k ∈ m.ks := by
  unfold fmK
  constructor
  · intro h
    obtain ⟨a, h1, h2⟩ := List.mem_map.mp h
    cases h2; exact h1
  · intro h; exact List.mem_map_of_mem h
theorem fmK_nd {m : FM α} (h : m.ks.Nodup) : (fmK m).Nodup := nodup_inr h
theorem fm_lk (m : FM α) (k : Str) : lk ((fmK m).zip ((fmV f m).map E.d)) (.inr k) = (m.get k).map fun v => .d (f v) := by
  unfold FM.get lk fmK fmV FM.ks
  induction m with
  | nil => rfl
  | cons p m ih =>
    simp only [List.map_cons, List.zip_cons_cons]
    by_cases h : p.1 = k
    · rw [List.find?_cons_of_pos (by simp [h]), List.find?_cons_of_pos (by simp [h])]; rfl
    · rw [List.find?_cons_of_neg (by simp [h]), List.find?_cons_of_neg (by simp [h])]; exact ih
theorem fm_mem (m : FM α) (k : Str) : memK (.inr k) (fmK m) = decide (k ∈ m.ks) := by
  by_cases h : k ∈ m.ks
  · rw [memK_iff.mpr (fmK_mem.mpr h), decide_eq_true h]
  · rw [decide_eq_false h]
    cases q : memK (.inr k) (fmK m) with
    | false => rfl
    | true => exact absurd (fmK_mem.mp (memK_iff.mp q)) h
theorem FM.put_old {m : FM α} {k : Str} {v : α} (h : k ∈ m.ks) : m.put k v = m.map (fun p => if p.1 = k then (p.1, v) else p) := if_pos h
theorem FM.put_new {m : FM α} {k : Str} {v : α} (h : k ∉ m.ks) : m.put k v = m ++ [(k, v)] := if_neg h
theorem FM.ks_put {m : FM α} {k : Str} {v : α} : (m.put k v).ks = if k ∈ m.ks then m.ks else m.ks ++ [k] := by
  unfold FM.put
  split
  · unfold FM.ks
    rw [List.map_map]
    apply List.map_congr_left
    intro p _
    simp only [Function.comp]
    split <;> rfl
  · unfold FM.ks; simp
theorem fm_dpK {m : FM α} {k : Str} {v : α} : dpK (fmK m) (.inr k) = fmK (m.put k v) := by
  by_cases h : k ∈ m.ks
  · rw [dpK_old (fmK_mem.mpr h)]
    unfold fmK
    rw [FM.ks_put, if_pos h]
  · rw [dpK_new (fun z => h (fmK_mem.mp z))]
    unfold fmK
    rw [FM.ks_put, if_neg h, List.map_append]; rfl
theorem fm_dpV {m : FM α} {k : Str} {v : α} : dpV (fmK m) ((fmV f m).map E.d) (.inr k) (.d (f v)) = (fmV f (m.put k v)).map E.d := by
  by_cases h : k ∈ m.ks
  · unfold dpV
    rw [if_pos (memK_iff.mpr (fmK_mem.mpr h)), FM.put_old h]
    unfold fmK fmV FM.ks
    clear h
    induction m with
    | nil => rfl
    | cons p m ih =>
      simp only [List.map_cons, List.zip_cons_cons]
      rw [ih]
      congr 1
      by_cases h : p.1 = k
      · simp [h]
      · have h2 : ¬ (Sum.inr p.1 : Key) = Sum.inr k := fun z => h (by cases z; rfl)
        simp only [h, h2, if_false]
  · rw [dpV_new (fun z => h (fmK_mem.mp z)), FM.put_new h]
    unfold fmV; simp
theorem FM.put_nd {m : FM α} {k : Str} {v : α} (h : m.ks.Nodup) : (m.put k v).ks.Nodup := by
  rw [FM.ks_put]
  split
  · exact h
  · rename_i hk
    rw [List.nodup_append]
    exact ⟨h, by simp, fun a ha b hb e => by
      have : b = k := by simpa using hb
      subst this; subst e; exact hk ha⟩
theorem FM.put_len {m : FM α} {k : Str} {v : α} : (m.put k v).length ≤ m.length + 1 := by
  unfold FM.put
  split <;> simp
theorem FM.get_mem {m : FM α} {k : Str} {v : α} (h : m.get k = some v) : (k, v) ∈ m := by
  unfold FM.get at h
  cases q : m.find? fun p => decide (p.1 = k) with
  | none => rw [q] at h; cases h
  | some p =>
    rw [q] at h
    cases h
    have h1 := List.mem_of_find?_eq_some q
    have h2 : p.1 = k := by have := List.find?_some q; simpa using this
    rw [← h2]; exact h1
theorem FM.get_in {m : FM α} {k : Str} : (m.get k).isSome = true ↔ k ∈ m.ks := by
  unfold FM.get FM.ks
  induction m with
  | nil => simp
  | cons p m ih =>
    by_cases h : p.1 = k
    · rw [List.find?_cons_of_pos (by simp [h])]; simp [h]
    · rw [List.find?_cons_of_neg (by simp [h]), List.map_cons, List.mem_cons, ih]
      constructor
      · intro z; exact .inr z
      · intro z; exact z.resolve_left fun q => h q.symm
theorem FM.get_at {m : FM α} {i : Nat} {p : Str × α} (nd : m.ks.Nodup) (h : m[i]? = some p) : m.get p.1 = some p.2 := by
  unfold FM.get
  induction m generalizing i with
  | nil => simp at h
  | cons q m ih =>
    cases i with
    | zero => simp at h; subst h; rw [List.find?_cons_of_pos (by simp)]; rfl
    | succ i =>
      simp at h
      have hn : q.1 ≠ p.1 := fun z => (List.nodup_cons.mp nd).1 (by show q.1 ∈ _; rw [z]; exact List.mem_map_of_mem (List.mem_of_getElem? h))
      rw [List.find?_cons_of_neg (by simp [hn])]
      exact ih (List.nodup_cons.mp nd).2 h
/-- every value bears Pr -/
def FM.All (Pr : α → Prop) (m : FM α) : Prop := ∀ p ∈ m, Pr p.2
theorem FM.All.put {Pr : α → Prop} {m : FM α} (h : m.All Pr) {k : Str} {v : α} (hv : Pr v) : (m.put k v).All Pr := by
  intro p hp
  unfold FM.put at hp
  split at hp
  · obtain ⟨q, h1, rfl⟩ := List.mem_map.mp hp
    split
    · exact hv
    · exact h q h1
  · rcases List.mem_append.mp hp with hp | hp
    · exact h p hp
    · have : p = (k, v) := by simpa using hp
      subst this; exact hv
theorem FM.All.get {Pr : α → Prop} {m : FM α} (h : m.All Pr) {k : Str} {v : α} (hg : m.get k = some v) : Pr v := h _ (FM.get_mem hg)
theorem FM.All.mono {Pr Qr : α → Prop} {m : FM α} (h : m.All Pr) (i : ∀ x, Pr x → Qr x) : m.All Qr := fun p hp => i _ (h p hp)
theorem fm_key {m : FM α} {i : Nat} {d : D} (h : ((fmK m).map kD)[i]? = some d) : ∃ p, m[i]? = some p ∧ d = .str p.1 := by
  unfold fmK FM.ks at h
  rw [List.getElem?_map, List.getElem?_map, List.getElem?_map] at h
  cases e : m[i]? with
  | none => rw [e] at h; cases h
  | some p => rw [e] at h; cases h; exact ⟨p, rfl, rfl⟩
theorem strs_ks (m : FM α) : fmK m = (m.ks).map Sum.inr := rfl
end DL
namespace DL
open PySem PySem.Spec PyProof.Rows L2
variable {X : Cx} {F : Fr} {s : S}
section
variable {elt iter kx vx c0 : Expr} {scope : Scope} {own : List (Str × Nat)} {pos p : Pos} {x : Str} {j B : Nat} {Φ : E → S → Prop}
/-- {k: v for x in iter if c}, pure: the dict, owned -/
theorem je_dcTO (bx : Bx X B) (ok : BlkOk X.N X.env.scope scope own) (hj : j ∈ own.map (·.2)) (hn : ∀ Y, IsBlk X scope Y → NmW Y j x)
    (h : DcT X F (.Name x p) iter c0 kx vx scope (own.map (·.2)) j s fun ks ds => Φ (.r s.ce.length) (s.push (.dct ks) (ds.map .d)))
    (hs : ∀ x, foldedSetIterable iter X.env x = pure x := by intro _; rfl) : JE X F (.DictComp kx vx [⟨.Name x p, iter, [c0], 0⟩] scope pos) s Φ := fun as G H σ Q c k =>
  sem_lock (PE.sem (pe_dc bx.calm bx.nd (pi_sem X _ iter) ok (pg_B hn) pts_B pe_B pe_B hs) (dcT_read hj h as G H σ _ c fun D as' G' H' vs ks ds c' x' hd gD nD h0 rs l nd q =>
    ⟨D, _, hd, trivial, fun od => by
      have c2 := (lay_dct (ks := ks) (vs := vs) (od := od) c' gD nD h0).grow (kd := .dct ks) gD nD h0 ⟨l, nd, od, upd_same⟩ (VEs.ofReps rs)
      exact k _ _ _ _ (.r s.ce.length) _ c2 (x'.trans ⟨pre_snoc, Same.refl _⟩) ⟨D, by rw [← c'.len, List.getElem?_append_right (Nat.le_refl _)]; simp, rfl⟩ q⟩))
end
theorem filter_getD {α β : Type} (g : α → Bool) (h : α → β) (d : α) (ys : List α) : ((List.range ys.length).filter fun i => g (ys.getD i d)).map (fun i => h (ys.getD i d)) = (ys.filter g).map h := by
  have e : ys = (List.range ys.length).map fun i => ys.getD i d := by
    have := range_getD (fun y : α => y) d ys
    rw [List.map_id'] at this
    exact this.symm
  conv => rhs; rw [e, List.filter_map, List.map_map]
  rfl
theorem dcT_getD {α : Type} {kf : α → Key} {f : α → D} {g : α → Bool} {d : α} {ys : List α} (h : (ys.map kf).Nodup) : dcT (fun i => kf (ys.getD i d)) (fun i => f (ys.getD i d)) (fun i => g (ys.getD i d)) ys.length = ((ys.filter g).map kf, (ys.filter g).map f) := by
  rw [dcT_inj]
  · rw [filter_getD, filter_getD]
  intro i j hij hj e
  have hi : i < ys.length := by omega
  have h1 : (ys.map kf)[i]? = some (kf (ys.getD i d)) := by rw [List.getElem?_map, List.getElem?_eq_getElem hi]; simp [List.getD, List.getElem?_eq_getElem hi]
  have h2 : (ys.map kf)[j]? = some (kf (ys.getD j d)) := by rw [List.getElem?_map, List.getElem?_eq_getElem hj]; simp [List.getD, List.getElem?_eq_getElem hj]
  have e : kf (ys.getD i d) = kf (ys.getD j d) := e
  rw [e] at h1
  have := nodup_get h h1 h2
  omega
end DL
namespace DL
open PySem PySem.Spec PyProof.Rows L2
variable {X : Cx} {F : Fr} {s : S}
/-! ### reading owned things as if frozen, while one expression makes a new list -/
def S.viewSl (s : S) : List (Option E) := s.sl.map fun o => match o with
  | none => none
  | some e => (s.view e).map E.d
theorem je_borrow {e : Expr} {Φ : E → S → Prop} (h : ∀ F', JE X F' e ⟨s.viewSl, [], 0⟩ fun e1 s1 => ∃ ds, e1 = .r 0 ∧ s1 = ⟨s.viewSl, [.nd .lst (ds.map .d)], 0⟩ ∧ D.imms ds = true ∧ Φ (.r s.ce.length) (s.push .lst (ds.map .d))) : JE X F e s Φ := fun as G H σ Q c k => by
  have c0 : Cz X ⟨lend s as G H, H, []⟩ [] (lend s as G H) H σ ⟨s.viewSl, [], 0⟩ := by
    refine ⟨lend_in c.sub, Same.refl _, fun _ h _ => h, fun _ _ h _ => h, rfl, List.prefix_refl _, List.nodup_nil, fun k a kd es h => by simp at h, fun a h => by simp at h, fun a h => by simp at h, fun k kd es h => ?_, fun i e he => ?_, ?_, rfl⟩
    · have h : ([] : List Cell)[k]? = some (.nd kd es) := h
      simp at h
    · have he : (s.viewSl)[i]? = some (some e) := he
      unfold S.viewSl at he
      rw [List.getElem?_map] at he
      cases q : s.sl[i]? with
      | none => rw [q] at he; cases he
      | some o =>
        rw [q] at he
        cases o with
        | none => cases he
        | some e0 =>
          have he : (s.view e0).map E.d = some e := Option.some.inj he
          cases q2 : s.view e0 with
          | none => rw [q2] at he; cases he
          | some d =>
            rw [q2] at he
            cases he
            obtain ⟨v, w1, w2⟩ := c.slots i e0 q
            exact ⟨v, w1, c.view w2 q2⟩
    · show s.viewSl.length = _
      unfold S.viewSl
      rw [List.length_map]; exact c.slen
  refine h _ [] _ H σ _ c0 fun v as' G' H' e1 s1 c' x ve ⟨ds, q1, q2, hi, q⟩ => ?_
  subst q1 q2
  obtain ⟨a, ha, rfl⟩ := ve
  obtain ⟨a', vs, g1, g2, g3⟩ := c'.cells 0 .lst (ds.map .d) rfl
  rw [ha] at g1
  cases g1
  have hG' : G' a = none := c'.own 0 a .lst _ ha rfl
  have hH : H a = none := (c'.fresh a (List.mem_of_getElem? ha)).resolve_left (by simp)
  have h1 : Same H H' := fun b o z => c'.frame b o z (by simp)
  have h2 : Same (lend s as G H) G' := c'.base
  -- what is frozen behind
  obtain ⟨G2, hG2, hG3⟩ : ∃ G2 : Hp, (∀ b, Alive s as b → G2 b = none) ∧ ∀ b, ¬ Alive s as b → G2 b = G' b := by
    classical
    exact ⟨fun b => if Alive s as b then none else G' b, fun b h => if_pos h, fun b h => if_neg h⟩
  have ga : ∀ {b : Addr}, Alive s as b → G b = none := fun {b} ⟨k, kd, es, w1, w2⟩ => c.own k b _ _ w1 w2
  have s1' : Same G G2 := fun b o q => by
    rw [hG3 b (fun z => by rw [ga z] at q; cases q)]
    exact h2 b o (lend_sub b o q)
  have s2' : Same G2 H' := fun b o q => by
    by_cases hb : Alive s as b
    · rw [hG2 b hb] at q; cases q
    · rw [hG3 b hb] at q; exact c'.sub b o q
  have s4' : ∀ b, G b = none → H b ≠ none → G2 b = none := fun b w1 w2 => by
    by_cases hb : Alive s as b
    · exact hG2 b hb
    · rw [hG3 b hb]
      exact c'.new b (lend_no w1 hb) w2
  have c2 := c.call h1 s1' s2' s4'
  have tups : ∀ a vs, Rd G' a (.tup vs) → Rd G2 a (.tup vs) := fun b ws hb => by
    have nb : ¬ Alive s as b := fun z => by
      have w0 := ga z
      obtain ⟨j, kd, es, hj, hcl⟩ := z
      obtain ⟨b', us, g1, g2, g3⟩ := c.cells j _ _ hcl
      rw [hj] at g1
      cases g1
      obtain ⟨o, ho⟩ := g2.some
      have hG' : G' b = some o := h2 b o (by rw [lend_yes w0 ⟨j, kd, es, hj, hcl⟩]; exact ho)
      have g2' : CellAt G' b us kd := g2.keep fun u q => by rw [ho] at q; cases q; exact hG'
      rcases hb with hb | ⟨oo, hb⟩
      · cases kd with
        | tup => exact g2'
        | lst => have : G' b = some (.lst us) := g2'; rw [hb] at this; cases this
        | dct ks => obtain ⟨_, _, _, this⟩ := g2'; rw [hb] at this; cases this
        | ins C fs => obtain ⟨_, _, this⟩ := g2'; rw [hb] at this; cases this
      · cases kd with
        | tup => exact g2'
        | lst => have : G' b = some (.lst us) := g2'; rw [hb] at this; cases this
        | dct ks => obtain ⟨_, _, _, this⟩ := g2'; rw [hb] at this; cases this
        | ins C fs => obtain ⟨_, _, this⟩ := g2'; rw [hb] at this; cases this
    rcases hb with hb | ⟨oo, hb⟩
    · exact .inl (by rw [hG3 b nb]; exact hb)
    · exact .inr ⟨oo, by rw [hG3 b nb]; exact hb⟩
  have gb : G2 a = none := by
    by_cases hb : Alive s as a
    · exact hG2 a hb
    · rw [hG3 a hb]; exact hG'
  have c3 := c2.grow (kd := .lst) (es := ds.map .d) gb (c.notin hH) (c.h0none hH) g2 (VEs.ofReps (imm_keeps tups _ _ g3.reps hi))
  exact k _ _ G2 H' (.r s.ce.length) _ c3 ⟨pre_snoc, s1'⟩ ⟨a, by rw [← c.len, List.getElem?_append_right (Nat.le_refl _)]; simp, rfl⟩ q
end DL
namespace DL
open PySem PySem.Spec PyProof.Rows L2
/-- a pair of whole numbers laid in the module -/
theorem XIs.gcQ {P : Program} {w : World} {K : PySem.W.Frag} {mg : Str → Option Value} {base : Heap} {N : List Str} {sc : Scope} {k : Nat} {x : Str} {a : Addr} {od : Option Addr} {sl : Array (Option Value)} {i j : Int} {t1 t2 : Tok} {n : Nat} (hm : mg x = some (.ref a)) (hl : K.lookup a = some ⟨.type "tuple", od, .seq #[.int i t1, .int j t2] n, sl⟩)
    (hd : (x == ("__debug__" : Str)) = false) {X : Cx} (hX : XIs X P w K mg base N sc k) (h : sc.names.lookup x = some .globalImplicit) : Gc X x (.nd .tup [.int i, .int j]) :=
  ⟨hX.gl h, ⟨.ref a, .ref a, by rw [hX.eM]; exact hm, rfl, .nd (k := .tup) (vs := [.int i, .int j]) (by
    rw [hX.eK]
    exact .inr ⟨_, _, n, hl, rfl, rfl, by rw [sizeLine_eq]; show 2 ≤ 16777216; decide, .cons ⟨t1, rfl⟩ (.cons ⟨t2, rfl⟩ .nil)⟩) (.cons (.int i) (.cons (.int j) .nil))⟩, hd⟩
end DL
namespace DL
open PySem PySem.Spec PyProof.Rows L2
section
variable {X : Cx} {F : Fr} {s : S} {tg iter : Expr} {body sts : List Stmt} {pos : Pos} {P : Po}
/-- a loop whose invariant is told after what it walks -/
theorem js_forE {B : Nat} (bx : Bx X B) (h : JI X F tg iter s fun n it s1 => ∃ In : Nat → S → Prop, In 0 s1 ∧ (∀ i v s', i < n → it i v → In i s' → Turn1 X F tg body P (In (i + 1)) v s') ∧ ∀ s', In n s' → P.nx s')
    (hs : ∀ x, foldedSetIterable iter X.env x = pure x := by intro _; rfl) : JS X F (.For tg iter body [] pos) s P := fun as G H σ D c k =>
  PS.sem (ps_for bx.po bx.calm (pi_sem X tg iter) (pg_sem X tg) (pss_sem X body) hs) (h as G H σ _ c fun J as1 G1 H1 s1 n it c1 x1 ok ⟨In, h0, ht, hd⟩ => by
    refine for_any (fun i σ' H' => ∃ as' G' s', Cz X F as' G' H' σ' s' ∧ Same G1 G' ∧ In i s') ⟨as1, G1, s1, c1, Same.refl _, h0⟩ (fun σ' H' ⟨as', G', s', c', x', _⟩ => ok.stop as' G' H' σ' s' c' x') (fun i σ' H' hi ⟨as', G', s', c', x', _⟩ => ok.go i as' G' H' σ' s' hi c' x')
      (fun i σ' H' hi ⟨as', G', s', c', x', q⟩ v H2 y => ?_) fun σ' H' ⟨as', G', s', c', x', q⟩ => k.nx as' G' H' σ' s' c' (x1.sub.trans x') (hd s' q)
    obtain ⟨G2, e, c2, ⟨x2, _⟩, ve, hv⟩ := ok.yld i as' G' H' σ' s' v H2 hi c' x' y
    have x3 : Same G1 G2 := x'.trans x2
    refine ht i e s' hi hv q as' G2 H2 σ' v _ c2 ve fun as3 G3 H3 σ3 s3 c3 x4 q3 => ?_
    refine q3 as3 G3 H3 σ3 _ c3 ⟨fun as5 G5 H5 σ5 s5 c5 x5 t => ⟨as5, G5, s5, c5, (x3.trans x4.sub).trans x5, t⟩, fun v as5 G5 H5 σ5 e5 s5 c5 x5 ve t => k.rt v as5 G5 H5 σ5 e5 s5 c5 (x1.sub.trans ((x3.trans x4.sub).trans x5)) ve t, fun as5 G5 H5 σ5 s5 c5 x5 t => k.nx as5 G5 H5 σ5 s5 c5 (x1.sub.trans ((x3.trans x4.sub).trans x5)) t,
      fun as5 G5 H5 σ5 s5 c5 x5 t => ⟨as5, G5, s5, c5, (x3.trans x4.sub).trans x5, t⟩⟩)
theorem jss_forE {B : Nat} (bx : Bx X B) (h : JI X F tg iter s fun n it s1 => ∃ In : Nat → S → Prop, In 0 s1 ∧ (∀ i v s', i < n → it i v → In i s' → JG X F tg v s' fun s2 => JSs X F body s2 { nx := In (i + 1), ct := In (i + 1), bk := fun s3 => JSs X F sts s3 P, rt := P.rt }) ∧ ∀ s', In n s' → JSs X F sts s' P)
    (hs : ∀ x, foldedSetIterable iter X.env x = pure x := by intro _; rfl) : JSs X F (.For tg iter body [] pos :: sts) s P := jss_cons (js_forE bx h hs)
end
end DL
namespace DL
open PySem PySem.Spec PyProof.Rows L2
/-! ### zip(a, b, strict=True) over two lists of one length -/
theorem F_tcz (a b : Value) : checkTypeCall "zip" ⟨[a, b], [(Str.ofString "strict", .bool true)]⟩ = pure () := by kernel_rfl
theorem F_ncz (a b : Value) : checkBuiltinCall "zip.__new__" ⟨[.type "zip", a, b], [(Str.ofString "strict", .bool true)]⟩ = pure () := by kernel_rfl
theorem F_aoz (obj a b : Value) : argsOk "object.__init__" ⟨[obj, a, b], [(Str.ofString "strict", .bool true)]⟩ := by unfold argsOk; kernel_rfl
/-- a strict zip -/
abbrev ZipS (h : Heap) (z TI TO : Addr) (f0 : Value) : Prop :=
  h.get? z = some { cls := .type "zip", dict := none, data := .fields #[f0, .bool false, .bool true, .ref TI, .ref TO], slots := #[] }
section
variable {prog : Program} {w : World} {A : Around} {E : Value → Shared → Prop} {s : Shared}
theorem nOE_item {it l : Addr} {i : Nat} {items : Array Value} {x : Value} {Q : Option Value → Shared → Prop} (hit : s.heap.IsListIter it l i) (hl : s.heap.IsList l items) (hx : items[i]? = some x)
    (hQ : ∀ h', h'.IsListIter it l (i + 1) → Heap.SameBut it s.heap h' → Q (some x) { s with heap := h' }) : wpAny (model prog w) A (Builtin.SmallTypes.nextOrEnd (.ref it)) Q E s := by
  unfold Builtin.SmallTypes.nextOrEnd
  exact wpAny_bind (wpAny_attempt (wpAny_nextOf_list_item hit hl hx fun h' a b => wpAny_pure (hQ h' a b)))
theorem nOE_end {it l : Addr} {i : Nat} {items : Array Value} {Q : Option Value → Shared → Prop} (hh : A.handled = none) (hit : s.heap.IsListIter it l i) (hl : s.heap.IsList l items) (hx : items[i]? = none)
    (hQ : ∀ h', Heap.ExtBut it s.heap h' → Q none { s with heap := h' }) : wpAny (model prog w) A (Builtin.SmallTypes.nextOrEnd (.ref it)) Q E s := by
  unfold Builtin.SmallTypes.nextOrEnd
  refine wpAny_bind (wpAny_attempt (wpAny_nextOf_list_end hh hit hl hx fun h' e k he => ?_))
  obtain ⟨o, ho, hc⟩ := he
  exact wpAny_bind (wpAny_isInstance (T := "StopIteration") (b := true) ⟨o, ho, hc⟩ isSubtype_stop (wpAny_pure (hQ h' k)))
theorem zs_item {z TI TO i1 i2 l1 l2 : Addr} {k1 k2 : Nat} {xs ys : Array Value} {x y a b : Value} {Q : Value → Shared → Prop} (D : ZipApart z TI TO i1 i2 l1 l2)
    (hz : ZipS s.heap z TI TO .none) (hTI : IsPair s.heap TI (.ref i1) (.ref i2)) (hTO : IsPair s.heap TO a b)
    (h1 : s.heap.IsListIter i1 l1 k1) (h2 : s.heap.IsListIter i2 l2 k2) (hl1 : s.heap.IsList l1 xs) (hl2 : s.heap.IsList l2 ys) (hx : xs[k1]? = some x) (hy : ys[k2]? = some y)
    (hQ : ∀ h', ZipS h' z TI TO (rawInt s.heap.objs.size) → IsPair h' TO x y → h'.IsListIter i1 l1 (k1 + 1) → h'.IsListIter i2 l2 (k2 + 1) → IsPair h' s.heap.objs.size x y → h'.objs.size = s.heap.objs.size + 1 →
      (∀ c o, c ≠ z → c ≠ TO → c ≠ i1 → c ≠ i2 → s.heap.get? c = some o → h'.get? c = some o) → Q (.ref s.heap.objs.size) { s with heap := h' }) :
    wpAny (model prog w) A (Builtin.«zip.__next__» ⟨[.ref z], []⟩) (fun fin s' => ∃ v, fin = .done (.ret v) ∧ Q v s') E s := by
  show wpAny _ _ (field (.ref z) 2 >>= _) _ _ _
  refine wpAny_bind (wpAny_field hz rfl (x := .bool true) rfl ?_)
  show wpAny _ _ (field (.ref z) 3 >>= _) _ _ _
  refine wpAny_bind (wpAny_field hz rfl (x := .ref TI) rfl (wpAny_bind (wpAny_seqItems hTI rfl ?_)))
  show wpAny _ _ (Builtin.SmallTypes.ownedTupleIsFree (.ref z) >>= _) _ _ _
  refine wpAny_bind ?_
  unfold Builtin.SmallTypes.ownedTupleIsFree
  refine wpAny_bind (wpAny_field hz rfl (x := .none) rfl (wpAny_pure ?_))
  simp only [if_true]
  refine wpAny_bind (wpAny_rule (wpAny_bind (wpAny_field hz rfl (x := .ref TO) rfl (wpAny_bind (wpAny_setField_rec hz (by simp) fun g1 z1 s1 => wpAny_bind ?_)))))
  replace z1 : ZipS g1 z TI TO .ellipsis := z1
  simp only [List.zipIdx_cons, List.zipIdx_nil, List.forIn_cons, List.forIn_nil]
  refine wpAny_bind (wpAny_bind (wpAny_onRaise ?_))
  show wpAny _ _ (Builtin.SmallTypes.nextOrEnd (.ref i1)) _ _ _
  refine nOE_item (h1.extBut s1.extBut D.i1z) (hl1.extBut s1.extBut D.l1z) hx fun g2 a2 s2 => ?_
  have t2 : IsPair g2 TO a b := s2.extBut _ _ D.TOi1 (s1.extBut _ _ D.TOz hTO)
  refine wpAny_bind (wpAny_seqItems t2 rfl (wpAny_bind (wpAny_updateSeq_pair t2 fun g3 t3 s3 => wpAny_bind (wpAny_letGo (wpAny_pure ?_)))))
  replace t3 : IsPair g3 TO x b := t3
  refine wpAny_bind (wpAny_bind (wpAny_onRaise ?_))
  show wpAny _ _ (Builtin.SmallTypes.nextOrEnd (.ref i2)) _ _ _
  refine nOE_item (((h2.extBut s1.extBut D.i2z).extBut s2.extBut D.i12.symm).extBut s3.extBut D.TOi2.symm) (((hl2.extBut s1.extBut D.l2z).extBut s2.extBut D.l2i1).extBut s3.extBut D.l2TO) hy fun g4 a4 s4 => ?_
  have t4 : IsPair g4 TO x b := s4.extBut _ _ D.TOi2 t3
  refine wpAny_bind (wpAny_seqItems t4 rfl (wpAny_bind (wpAny_updateSeq_pair t4 fun g5 t5 s5 => wpAny_bind (wpAny_letGo (wpAny_pure (wpAny_pure ?_))))))
  replace t5 : IsPair g5 TO x y := t5
  have ext : ∀ c o, c ≠ z → c ≠ TO → c ≠ i1 → c ≠ i2 → s.heap.get? c = some o → g5.get? c = some o := fun c o n1 n2 n3 n4 q =>
    s5.extBut _ _ n2 (s4.extBut _ _ n4 (s3.extBut _ _ n2 (s2.extBut _ _ n3 (s1.extBut _ _ n1 q))))
  have zz : g5.objs.size = s.heap.objs.size := by rw [s5.1, s4.1, s3.1, s2.1, s1.1]
  have z5 : ZipS g5 z TI TO .ellipsis := s5.extBut _ _ D.TOz.symm (s4.extBut _ _ D.i2z.symm (s3.extBut _ _ D.TOz.symm (s2.extBut _ _ D.i1z.symm z1)))
  have b1 : g5.IsListIter i1 l1 (k1 + 1) := ((a2.extBut s3.extBut D.TOi1.symm).extBut s4.extBut D.i12).extBut s5.extBut D.TOi1.symm
  have b2 : g5.IsListIter i2 l2 (k2 + 1) := a4.extBut s5.extBut D.TOi2.symm
  refine wpAny_bind (wpAny_seqItems t5 rfl (wpAny_bind (wpAny_newTuple ?_)))
  show wpAny _ _ (Builtin.SmallTypes.ownedTupleHandOut (.ref z) (.ref g5.objs.size) >>= _) _ _ _
  refine wpAny_bind ?_
  unfold Builtin.SmallTypes.ownedTupleHandOut
  have z6 : ZipS (g5.push { cls := .type "tuple", data := .seq #[x, y] }) z TI TO .ellipsis := Heap.get?_push_of_some _ z5
  refine wpAny_bind (wpAny_setField_rec z6 (by simp) fun g7 z7 s7 => ?_)
  replace z7 : ZipS g7 z TI TO (rawInt g5.objs.size) := z7
  refine wpAny_setField_rec z7 (by simp) fun g8 z8 s8 => ?_
  replace z8 : ZipS g8 z TI TO (rawInt g5.objs.size) := z8
  have up : ∀ c o, c ≠ z → g5.get? c = some o → g8.get? c = some o := fun c o n q => s8.extBut _ _ n (s7.extBut _ _ n (Heap.get?_push_of_some _ q))
  have zl : z < g5.objs.size := Heap.lt_size z5
  have t8 : IsPair g8 g5.objs.size x y := s8.extBut _ _ (Nat.ne_of_gt zl) (s7.extBut _ _ (Nat.ne_of_gt zl) (Heap.get?_push_size _ rfl))
  have w8 : g8.objs.size = g5.objs.size + 1 := by rw [s8.1, s7.1, Heap.size_push]
  refine wpAny_pure ⟨_, rfl, ?_⟩
  show Q (.ref g5.objs.size) _
  rw [zz] at z8 t8 w8 ⊢
  exact hQ g8 z8 (up _ _ D.TOz t5) (b1.at fun o q => up _ o D.i1z q) (b2.at fun o q => up _ o D.i2z q) t8 w8 fun c o n1 n2 n3 n4 q => up c o n1 (ext c o n1 n2 n3 n4 q)
theorem zs_end {z TI TO i1 i2 l1 l2 : Addr} {k1 k2 : Nat} {xs ys : Array Value} {a b : Value} {Q : Fin → Shared → Prop} (hh : A.handled = none) (D : ZipApart z TI TO i1 i2 l1 l2)
    (hz : ZipS s.heap z TI TO .none) (hTI : IsPair s.heap TI (.ref i1) (.ref i2)) (hTO : IsPair s.heap TO a b)
    (h1 : s.heap.IsListIter i1 l1 k1) (h2 : s.heap.IsListIter i2 l2 k2) (hl1 : s.heap.IsList l1 xs) (hl2 : s.heap.IsList l2 ys) (hx : xs[k1]? = none) (hy : ys[k2]? = none)
    (hE : ∀ h' e, (∀ c o, c ≠ z → c ≠ TO → c ≠ i1 → c ≠ i2 → s.heap.get? c = some o → h'.get? c = some o) → (∃ o, h'.get? e = some o ∧ o.cls = .type "StopIteration") → E (.ref e) { s with heap := h' }) :
    wpAny (model prog w) A (Builtin.«zip.__next__» ⟨[.ref z], []⟩) Q E s := by
  show wpAny _ _ (field (.ref z) 2 >>= _) _ _ _
  refine wpAny_bind (wpAny_field hz rfl (x := .bool true) rfl ?_)
  show wpAny _ _ (field (.ref z) 3 >>= _) _ _ _
  refine wpAny_bind (wpAny_field hz rfl (x := .ref TI) rfl (wpAny_bind (wpAny_seqItems hTI rfl ?_)))
  show wpAny _ _ (Builtin.SmallTypes.ownedTupleIsFree (.ref z) >>= _) _ _ _
  refine wpAny_bind ?_
  unfold Builtin.SmallTypes.ownedTupleIsFree
  refine wpAny_bind (wpAny_field hz rfl (x := .none) rfl (wpAny_pure ?_))
  simp only [if_true]
  refine wpAny_bind (wpAny_rule (wpAny_bind (wpAny_field hz rfl (x := .ref TO) rfl (wpAny_bind (wpAny_setField_rec hz (by simp) fun g1 z1 s1 => wpAny_bind ?_)))))
  replace z1 : ZipS g1 z TI TO .ellipsis := z1
  simp only [List.zipIdx_cons, List.zipIdx_nil, List.forIn_cons, List.forIn_nil]
  refine wpAny_bind (wpAny_bind (wpAny_onRaise ?_))
  show wpAny _ _ (Builtin.SmallTypes.nextOrEnd (.ref i1)) _ _ _
  refine nOE_end hh (h1.extBut s1.extBut D.i1z) (hl1.extBut s1.extBut D.l1z) hx fun g2 s2 => ?_
  have z2 : ZipS g2 z TI TO .ellipsis := s2 _ _ D.i1z.symm z1
  refine wpAny_bind (wpAny_setField_rec z2 (by simp) fun g3 z3 s3 => ?_)
  replace z3 : ZipS g3 z TI TO .none := z3
  refine wpAny_bind ?_
  refine wpAny_bind ?_
  simp only [List.drop_succ_cons, List.drop_zero, List.zipIdx_cons, List.zipIdx_nil, List.forIn_cons, List.forIn_nil]
  refine wpAny_bind (wpAny_bind ?_)
  refine nOE_end hh (((h2.extBut s1.extBut D.i2z).extBut s2 D.i12.symm).extBut s3.extBut D.i2z) (((hl2.extBut s1.extBut D.l2z).extBut s2 D.l2i1).extBut s3.extBut D.l2z) hy fun g4 s4 => ?_
  simp only [Option.isSome_none, Bool.false_eq_true, if_false]
  refine wpAny_pure (wpAny_pure ?_)
  refine wpAny_bind (wpAny_rule ?_)
  unfold Builtin.SmallTypes.stopIteration
  show wpAny _ _ (newExc (.type "StopIteration") [] >>= _) _ _ _
  refine wpAny_bind ?_
  simp only [newExc, newTuple]
  refine wpAny_bind (wpAny_newObj_type ?_ (by size_fits))
  refine wpAny_bind (m := firstArgMember _ _) (wpAny_of_eq (a := Value.none) (by first | rfl | (simp only [firstArgMember]; rfl)) ?_)
  refine wpAny_newObj_type ?_ (by size_fits)
  simp only [raiseNew]
  refine wpAny_bind (wpAny_handled ?_)
  rw [hh]
  refine wpAny_throw ?_
  exact hE _ _ (fun c o n1 _ n3 n4 q => Heap.get?_push_of_some _ (Heap.get?_push_of_some _ (s4 _ _ n4 (s3.extBut _ _ n1 (s2 _ _ n3 (s1.extBut _ _ n1 q)))))) ⟨_, Heap.get?_push_size _ rfl, rfl⟩
theorem zs_next_item {z TI TO i1 i2 l1 l2 : Addr} {k1 k2 : Nat} {xs ys : Array Value} {x y a b : Value} {Q : Option Value → Shared → Prop} (D : ZipApart z TI TO i1 i2 l1 l2)
    (hz : ZipS s.heap z TI TO .none) (hTI : IsPair s.heap TI (.ref i1) (.ref i2)) (hTO : IsPair s.heap TO a b)
    (h1 : s.heap.IsListIter i1 l1 k1) (h2 : s.heap.IsListIter i2 l2 k2) (hl1 : s.heap.IsList l1 xs) (hl2 : s.heap.IsList l2 ys) (hx : xs[k1]? = some x) (hy : ys[k2]? = some y)
    (hQ : ∀ h', ZipS h' z TI TO (rawInt s.heap.objs.size) → IsPair h' TO x y → h'.IsListIter i1 l1 (k1 + 1) → h'.IsListIter i2 l2 (k2 + 1) → IsPair h' s.heap.objs.size x y → h'.objs.size = s.heap.objs.size + 1 →
      (∀ c o, c ≠ z → c ≠ TO → c ≠ i1 → c ≠ i2 → s.heap.get? c = some o → h'.get? c = some o) → Q (some (.ref s.heap.objs.size)) { s with heap := h' }) :
    wpAny (model prog w) A (pyNext (.ref z)) Q E s := by
  have hT : s.TypeIs (.ref z) "zip" := ⟨_, hz, rfl⟩
  unfold pyNext
  exact wpAny_bind (wpAny_attempt (wpAny_callSpecial?_slot (name := Str.ofString "__next__") hT F.slot_zip_next
    (wpAny_call_entry F.slot_zip_next hT F.entry_zip_next (zs_item D hz hTI hTO h1 h2 hl1 hl2 hx hy fun h' a1 a2 a3 a4 a5 a6 a7 => wpAny_pure (hQ h' a1 a2 a3 a4 a5 a6 a7)) (F.args_zip_next_1 _))))
theorem zs_next_end {z TI TO i1 i2 l1 l2 : Addr} {k1 k2 : Nat} {xs ys : Array Value} {a b : Value} {Q : Option Value → Shared → Prop} (hh : A.handled = none) (D : ZipApart z TI TO i1 i2 l1 l2)
    (hz : ZipS s.heap z TI TO .none) (hTI : IsPair s.heap TI (.ref i1) (.ref i2)) (hTO : IsPair s.heap TO a b)
    (h1 : s.heap.IsListIter i1 l1 k1) (h2 : s.heap.IsListIter i2 l2 k2) (hl1 : s.heap.IsList l1 xs) (hl2 : s.heap.IsList l2 ys) (hx : xs[k1]? = none) (hy : ys[k2]? = none)
    (hQ : ∀ h', (∀ c o, c ≠ z → c ≠ TO → c ≠ i1 → c ≠ i2 → s.heap.get? c = some o → h'.get? c = some o) → Q none { s with heap := h' }) : wpAny (model prog w) A (pyNext (.ref z)) Q E s := by
  have hT : s.TypeIs (.ref z) "zip" := ⟨_, hz, rfl⟩
  unfold pyNext
  refine wpAny_bind (wpAny_attempt (wpAny_callSpecial?_slot (name := Str.ofString "__next__") hT F.slot_zip_next
    (wpAny_call_entry F.slot_zip_next hT F.entry_zip_next (zs_end hh D hz hTI hTO h1 h2 hl1 hl2 hx hy fun h' e hk he => ?_) (F.args_zip_next_1 _))))
  obtain ⟨o, ho, hc⟩ := he
  exact wpAny_bind (wpAny_isInstance (T := "StopIteration") (b := true) ⟨o, ho, hc⟩ isSubtype_stop (wpAny_pure (hQ _ hk)))
theorem zs_go {elts : List Expr} {x1 : Nat} {pos : Pos} {z TI TO T : Addr} {Q : Unit → Shared → Prop} (hz : ZipS s.heap z TI TO (rawInt T))
    (hQ : ∀ h', ZipS h' z TI TO .none → Heap.SameBut z s.heap h' → Q () { s with heap := h' }) : wpAny (model prog w) A (letOwnedTupleGo (.Tuple elts x1 pos) (.ref z) (.ref T)) Q E s := by
  unfold letOwnedTupleGo
  refine wpAny_bind (wpAny_load hz ?_)
  show wpAny _ _ (if (["enumerate", "zip", "dict_itemiterator", "dict_reverseitemiterator", "odict_iterator", "itertools.zip_longest", "itertools.pairwise"].contains "zip" &&
      (#[rawInt T, .bool false, .bool true, .ref TI, .ref TO] : Array Value)[0]? == some (rawInt T)) = true then _ else _) Q E s
  rw [if_pos (by simp)]
  refine wpAny_bind (wpAny_rule ?_)
  show wpAny _ _ (setField (.ref z) 0 .none) Q E s
  exact wpAny_setField_rec hz (by simp) fun h' hz' hs' => hQ h' hz' hs'
theorem zs_iter {z TI TO : Addr} {f0 : Value} {Q : Value → Shared → Prop} (hz : ZipS s.heap z TI TO f0) (h : Q (.ref z) s) : wpAny (model prog w) A (pyIter (.ref z)) Q E s := by
  have hT : s.TypeIs (.ref z) "zip" := ⟨_, hz, rfl⟩
  refine wpAny_pyIter_slot hT F.slot_zip_iter (wpAny_call_entry F.slot_zip_iter hT F.entry_zip_iter ?_ (F.args_zip_iter_1 _))
  show wpAny _ _ (ret (.ref z)) _ _ s
  exact wpAny_pure ⟨_, rfl, "zip", _, hT, F.slot_zip_next.lookup, h⟩
end
abbrev zipS5 (h : Heap) (l1 l2 : Addr) : Heap := (zipH4 h l1 l2).push { cls := .type "zip", data := .fields #[.none, .bool false, .bool true, .ref (zipH2 h l1 l2).objs.size, .ref (zipH3 h l1 l2).objs.size] }
theorem meets_zipS (l1 l2 : Addr) (xs ys : Array Value) :
    Meets (Builtin.«zip.__new__» ⟨[.type "zip", .ref l1, .ref l2], [(Str.ofString "strict", .bool true)]⟩) (fun _ R s => s.heap.IsList l1 xs ∧ s.heap.IsList l2 ys ∧
      R (.ok (.ret (.ref (zipH4 s.heap l1 l2).objs.size))) { s with heap := zipS5 s.heap l1 l2 }) :=
  .of_wp fun prog w A R s h => by
    obtain ⟨hp, g, d, tk, os⟩ := s; obtain ⟨hl1, hl2, h⟩ := h
    have hsub := sub_zip
    have e1 : (Str.ofString "strict" != ("strict" : Str)) = false := by decide +kernel
    have hL1 : Heap.IsList (Shared.heap ⟨hp, g, d, tk, os⟩) l1 xs := hl1
    have hL2 : Heap.IsList (Shared.heap ⟨hp.push { cls := .type "list_iterator", data := .fields #[.ref l1, .int 0 0] }, g, d, tk, os⟩) l2 ys := Heap.IsList.push hl2 _
    wp_walk using wpAny_pyIter_list hL1, wpAny_pyIter_list hL2
    exact ⟨_, rfl, h⟩
section
variable {prog : Program} {w : World} {A : Around} {E : Value → Shared → Prop} {s : Shared}
/-- the call: two iterators, two tuples, the zip -/
theorem call_zipS {l1 l2 : Addr} {xs ys : Array Value} {Q : Value → Shared → Prop} (hl1 : s.heap.IsList l1 xs) (hl2 : s.heap.IsList l2 ys)
    (h : ∀ h', ZipS h' (s.heap.objs.size + 4) (s.heap.objs.size + 2) (s.heap.objs.size + 3) .none → IsPair h' (s.heap.objs.size + 2) (.ref s.heap.objs.size) (.ref (s.heap.objs.size + 1)) →
      IsPair h' (s.heap.objs.size + 3) .none .none → h'.IsListIter s.heap.objs.size l1 0 → h'.IsListIter (s.heap.objs.size + 1) l2 0 → (∀ c o, s.heap.get? c = some o → h'.get? c = some o) → Q (.ref (s.heap.objs.size + 4)) { s with heap := h' }) :
    wpAny (model prog w) A (call (.type "zip") [.ref l1, .ref l2] [(Str.ofString "strict", .bool true)]) Q E s := by
  refine callType_newKw F.called_zip (by decide) (F_tcz _ _) (F_ncz _ _) (fun obj => F_aoz obj _ _) F.entry_zip_new (meets_zipS l1 l2 xs ys) ⟨hl1, hl2, ?_⟩
  have n1 : (zipH1 s.heap l1).objs.size = s.heap.objs.size + 1 := Heap.size_push ..
  have n2 : (zipH2 s.heap l1 l2).objs.size = s.heap.objs.size + 2 := by rw [Heap.size_push, n1]
  have n3 : (zipH3 s.heap l1 l2).objs.size = s.heap.objs.size + 3 := by rw [Heap.size_push, n2]
  have n4 : (zipH4 s.heap l1 l2).objs.size = s.heap.objs.size + 4 := by rw [Heap.size_push, n3]
  have old : ∀ c o, s.heap.get? c = some o → (zipH4 s.heap l1 l2).get? c = some o := fun c o q => Heap.get?_push_of_some _ (Heap.get?_push_of_some _ (Heap.get?_push_of_some _ (Heap.get?_push_of_some _ q)))
  have g5 : (zipS5 s.heap l1 l2).get? (zipH4 s.heap l1 l2).objs.size = some _ := Heap.get?_push_size _ rfl
  have g4 : (zipS5 s.heap l1 l2).get? (zipH3 s.heap l1 l2).objs.size = some _ := Heap.get?_push_of_some _ (Heap.get?_push_size _ rfl)
  have g3 : (zipS5 s.heap l1 l2).get? (zipH2 s.heap l1 l2).objs.size = some _ := Heap.get?_push_of_some _ (Heap.get?_push_of_some _ (Heap.get?_push_size _ rfl))
  have g2 : (zipS5 s.heap l1 l2).get? (zipH1 s.heap l1).objs.size = some _ := Heap.get?_push_of_some _ (Heap.get?_push_of_some _ (Heap.get?_push_of_some _ (Heap.get?_push_size _ rfl)))
  have g1 : (zipS5 s.heap l1 l2).get? s.heap.objs.size = some _ := Heap.get?_push_of_some _ (Heap.get?_push_of_some _ (Heap.get?_push_of_some _ (Heap.get?_push_of_some _ (Heap.get?_push_size _ rfl))))
  show _ ∧ _
  rw [n2, n3, n4] at g5
  rw [n1, n2] at g3
  rw [n3] at g4
  rw [n1] at g2
  rw [n4]
  exact ⟨⟨_, g5, rfl⟩, h _ g5 g3 g4 ⟨_, g1, rfl, rfl⟩ ⟨_, g2, rfl, rfl⟩ fun c o q => Heap.get?_push_of_some _ (old c o q)⟩
end
/-- a class called with keywords -/
theorem callWith_tk {M : Model} {A : Around} {E : Value → Shared → Prop} {s : Shared} {pos : Pos} {T : String} {first : List Value} {args : List (Bool × Sem Value)} {kws : List (Option Str × Sem Value)} {Q : Value → Shared → Prop}
    (hplain : args.any (·.1) = false) (hkw : kws.any (·.1.isNone) = false)
    (h : wpAny M A (evalArgs (.type T) true args kws) (fun a s₁ => wpAny M A (call (.type T) (first ++ a.pos) a.kw) Q E s₁) E s) : wpAny M A (callWith pos (.type T) first args kws) Q E s := by
  unfold callWith
  refine wpAny_bind (wpAny_holding (wpAny_mono h (fun a s₁ h₁ => wpAny_bind (wpAny_standAt ?_)) fun _ _ x => x))
  simp only [hplain, hkw, Bool.or_false]
  refine wpAny_bind (wpAny_pure ?_)
  exact wpAny_bind (wpAny_mono h₁ (fun r s₂ hr => wpAny_bind (wpAny_holding (wpAny_point (wpAny_pure hr)))) fun _ _ x => x)
/-- the lists at a and b, of one length, item by item in new pairs -/
def ItzS (K : PySem.W.Frag) (a b : Addr) : It :=
  ⟨(Itz K a b).go, (Itz K a b).yld, fun i H => ∃ xs ys : List V, SqL K H a xs ∧ SqL K H b ys ∧ xs.length ≤ i ∧ ys.length ≤ i⟩
theorem turn_zipS {P : Program} {w : World} {K : PySem.W.Frag} {elts : List Expr} {kk : Nat} {tpos : Pos} {a b z TI TO i1 i2 : Addr} (D : ZipApart z TI TO i1 i2 a b) :
    Turn P w K (.Tuple elts kk tpos) (ItzS K a b) [z, TI, TO, i1, i2] z (fun i h => ZipS h z TI TO .none ∧ IsPair h TI (.ref i1) (.ref i2) ∧ (∃ x y, IsPair h TO x y) ∧ h.IsListIter i1 a i ∧ h.IsListIter i2 b i) where
  mem := by simp
  obj := fun i h st c hc => by
    obtain ⟨hz, hTI, ⟨x, y, hTO⟩, ⟨o1, e1, _, d1⟩, ⟨o2, e2, _, d2⟩⟩ := st
    simp only [List.mem_cons, List.not_mem_nil, or_false] at hc
    rcases hc with q | q | q | q | q <;> rw [q]
    · exact ⟨_, hz, fun v q => nomatch q⟩
    · exact ⟨_, hTI, fun v q => nomatch q⟩
    · exact ⟨_, hTO, fun v q => nomatch q⟩
    · exact ⟨o1, e1, fun v q => by rw [d1] at q; cases q⟩
    · exact ⟨o2, e2, fun v q => by rw [d2] at q; cases q⟩
  keep := fun i h h' st k => by
    obtain ⟨hz, hTI, ⟨x, y, hTO⟩, h1, h2⟩ := st
    exact ⟨k z (by simp) _ hz, k TI (by simp) _ hTI, ⟨x, y, k TO (by simp) _ hTO⟩, h1.at fun o q => k i1 (by simp) o q, h2.at fun o q => k i2 (by simp) o q⟩
  item := by
    intro X hP hw hK hc i pins s σ H E I hf st hg
    subst hP hw hK
    obtain ⟨hz, hTI, ⟨x0, y0, hTO⟩, h1, h2⟩ := st
    obtain ⟨xs, ys, x, y, hqx, hqy, hx, hy⟩ := hg
    obtain ⟨its, rv, p, _⟩ := I.list hqx
    obtain ⟨its2, rv2, p2, _⟩ := I.list hqy
    obtain ⟨u, hu, ru⟩ := rv.get hx
    obtain ⟨u2, hu2, ru2⟩ := rv2.get hy
    have hzl : z < s.heap.objs.size := Heap.lt_size hz
    refine zs_next_item D hz hTI hTO h1 h2 p.isList p2.isList (x := u) (y := u2) (by simpa using hu) (by simpa using hu2) fun h' z' TO' h1' h2' hT hsz hk => ?_
    refine ⟨_, rfl, zs_go (s := { s with heap := h' }) z' fun h'' z'' sb => ?_⟩
    have hT2 : h''.get? s.heap.objs.size = some { cls := .type "tuple", data := .seq #[u, u2] } := (sb.2 _ (Nat.ne_of_gt hzl)).trans hT
    have new : ObjOk X.prog X.w (upd H s.heap.objs.size (.tup [x, y])) h'' s.heap.objs.size (.tup [x, y]) :=
      ⟨by show 2 ≤ sizeLine; decide, [u, u2], .cons ru (.cons ru2 .nil), ⟨_, hT2, rfl, _, rfl⟩⟩
    have I1 : Inv X pins σ (upd H s.heap.objs.size (.tup [x, y])) { s with heap := h'' } :=
      I.turnedNew (t' := s.toks) (ch := [z, TI, TO, i1, i2]) (fun c o hb q => (sb.2 c (fun q' => hb (by simp [q']))).trans (hk c o (fun q' => hb (by simp [q'])) (fun q' => hb (by simp [q'])) (fun q' => hb (by simp [q'])) (fun q' => hb (by simp [q'])) q)) hf (Nat.le_refl _) new
    refine ⟨.ref s.heap.objs.size, _, I1, rfl, ⟨_, x, y, rfl, I.hok.fresh (Nat.le_refl _), rfl, fun l hl => by rw [I.list_inj hl hqx]; exact hx, fun l hl => by rw [I.list_inj hl hqy]; exact hy⟩, ⟨z'', ?_, ⟨u, u2, ?_⟩, ?_, ?_⟩, fun c hcm => ?_⟩
    · exact (sb.2 _ D.TIz).trans (hk _ _ D.TIz D.TITO D.TIi1 D.TIi2 hTI)
    · exact (sb.2 _ D.TOz).trans TO'
    · exact h1'.at fun o q => (sb.2 _ D.i1z).trans q
    · exact h2'.at fun o q => (sb.2 _ D.i2z).trans q
    · have hlt : c < s.heap.objs.size := by
        simp only [List.mem_cons, List.not_mem_nil, or_false] at hcm
        rcases hcm with q | q | q | q | q <;> rw [q]
        · exact hzl
        · exact Heap.lt_size hTI
        · exact Heap.lt_size hTO
        · obtain ⟨_, e1, _⟩ := h1; exact Heap.lt_size e1
        · obtain ⟨_, e2, _⟩ := h2; exact Heap.lt_size e2
      rw [upd_ne (Nat.ne_of_lt hlt)]
      exact (hf c hcm).1
  done := by
    intro X hP hw hK hc i pins s σ H E I hf st hg
    subst hP hw hK
    obtain ⟨hz, hTI, ⟨x0, y0, hTO⟩, h1, h2⟩ := st
    obtain ⟨xs, ys, hqx, hqy, l1, l2⟩ := hg
    obtain ⟨its, rv, p, _⟩ := I.list hqx
    obtain ⟨its2, rv2, p2, _⟩ := I.list hqy
    have m1 := rv.length
    have m2 := rv2.length
    exact zs_next_end (I.ok.hd hc) D hz hTI hTO h1 h2 p.isList p2.isList (by simp; omega) (by simp; omega) fun h' hk => ⟨rfl, I.turnedL (t' := s.toks) (ch := [z, TI, TO, i1, i2]) (fun c o hb q =>
      hk c o (fun q' => hb (by simp [q'])) (fun q' => hb (by simp [q'])) (fun q' => hb (by simp [q'])) (fun q' => hb (by simp [q'])) q) hf⟩
  self := fun A i s Q E st h => zs_iter st.1 h
def iZipS (K : PySem.W.Frag) (ta : TA) : TI := fun σ H R => ta σ H fun vs H1 => ∃ a b xs ys, vs = [.ref a, .ref b] ∧ SqL K H1 a xs ∧ SqL K H1 b ys ∧ R (ItzS K a b) H1
theorem pi_zipS {X : Cx} {e e2 : Expr} {ta : TA} {p pos tpos cp kp : Pos} {elts : List Expr} {kk j : Nat} (hg : Gl X "zip") (hm : X.mg "zip" = none) (ha : PA X [e, e2] ta)
    (he : backTo pos (starEach [e, e2] X.env) = (false, eval e X.env) :: backTo pos (starEach [e2] X.env) := by rfl) (hpl : (backTo pos (starEach [e, e2] X.env)).any (·.1) = false := by rfl) :
    PI X (.Tuple elts kk tpos) (.Call (.Name "zip" p) [e, e2] [⟨some "strict", .Constant (.bool true) j cp, kp⟩] pos) (iZipS X.K ta) := by
  refine ⟨fun pins s σ H R I h => ?_⟩
  refine wpAny_Call_Name_kw (ld_blt I hg hm PyProof.Rows.boot_zip (callWith_tk hpl rfl ?_))
  rw [he]
  refine evalArgs_kwB rfl ?_
  rw [← he]
  refine thn (ha.run pos pins s σ H _ I h) fun us s1 ⟨vs, H1, I1, r1, q1⟩ => ?_
  refine kws_cons (Constant_bool (kws_nil ?_))
  obtain ⟨a, b, xs, ys, ex, hqx, hqy, q⟩ := q1
  subst ex
  cases r1 with
  | cons r rr =>
    cases rr with
    | cons r' rr =>
      cases rr
      cases r
      cases r'
      obtain ⟨its, rv, p1, _⟩ := I1.list hqx
      obtain ⟨its2, rv2, p2, _⟩ := I1.list hqy
      have la : a < s1.heap.objs.size := p1.lt
      have lb : b < s1.heap.objs.size := p2.lt
      refine call_zipS p1.isList p2.isList fun h' hz hTI hTO h1 h2 hk => zs_iter hz ?_
      have I2 : Inv X pins σ H1 { s1 with heap := h' } := I1.kept (t' := s1.toks) hk
      refine ⟨s1.heap.objs.size + 4, [s1.heap.objs.size + 4, s1.heap.objs.size + 2, s1.heap.objs.size + 3, s1.heap.objs.size, s1.heap.objs.size + 1], _, _, H1, rfl, I2, turn_zipS (PySem.W.ktu_apart s1.heap.objs.size a b la lb), ⟨hz, hTI, ⟨_, _, hTO⟩, h1, h2⟩, fun c hcm => ?_, q⟩
      have hle : s1.heap.objs.size ≤ c := by
        simp only [List.mem_cons, List.not_mem_nil, or_false] at hcm
        rcases hcm with z | z | z | z | z <;> rw [z] <;> omega
      exact I1.fpOk hle (I1.hok.fresh hle)
section
variable {X : Cx} {F : Fr} {s : S} {a b : Expr} {p pos tpos cp kp : Pos} {elts : List Expr} {kk j : Nat} {Θ : Nat → (Nat → E → Prop) → S → Prop}
/-- two whole frozen lists of one length, in pairs -/
def itZ (ds es : List D) : Nat → E → Prop := fun i e => ∃ d d2, ds[i]? = some d ∧ es[i]? = some d2 ∧ e = .d (.nd .tup [d, d2])
theorem ji_zipS (g : GlB X "zip") (h : JE X F a s fun e1 s1 => JE X F b s1 fun e2 s2 => ∃ ds es, e1 = .d (.nd .lst ds) ∧ e2 = .d (.nd .lst es) ∧ ds.length = es.length ∧ Θ ds.length (itZ ds es) s2)
    (ns : NoStar a := by intro _ _; rfl) (ns2 : NoStar b := by intro _ _; rfl) : JI X F (.Tuple elts kk tpos) (.Call (.Name "zip" p) [a, b] [⟨some "strict", .Constant (.bool true) j cp, kp⟩] pos) s Θ := fun as G H σ R c k => by
  refine PI.sem (pi_zipS g.gl g.mg (pa_cons (pe_sem X a) (pa_cons (pe_sem X b) pa_nil (ns2 _ _)) (ns _ _)) (by rw [ns, ns2]; rfl) (by rw [ns, ns2]; rfl)) ?_
  refine h as G H σ _ c fun v1 as1 G1 H1 e1 s1 c1 x1 ve1 h1 => h1 as1 G1 H1 σ _ c1 fun v2 as2 G2 H2 e2 s2 c2 x2 ve2 ⟨ds, es, q1, q2, hl, q⟩ => ?_
  subst q1 q2
  cases ve1 with
  | @nd l1 vs _ _ n r =>
    cases ve2 with
    | @nd l2 ws _ _ n2 r2 =>
      have n : SqL X.K G1 l1 vs := n
      have n2 : SqL X.K G2 l2 ws := n2
      have n3 : SqL X.K G2 l1 vs := (show NodeAt X.K G1 l1 vs .lst from n).mono x2.sub
      have r3 : Reps X.K G2 vs ds := r.mono x2.sub
      have at1 : ∀ {as' : List Addr} {G' H' : Hp} {σ' : L2.St} {s' : S}, Cz X F as' G' H' σ' s' → Same G2 G' → SqL X.K H' l1 vs := fun c' x => ((show NodeAt X.K G2 l1 vs .lst from n3).mono x).mono c'.sub
      have at2 : ∀ {as' : List Addr} {G' H' : Hp} {σ' : L2.St} {s' : S}, Cz X F as' G' H' σ' s' → Same G2 G' → SqL X.K H' l2 ws := fun c' x => ((show NodeAt X.K G2 l2 ws .lst from n2).mono x).mono c'.sub
      have el1 : vs.length = ds.length := r3.length
      have el2 : ws.length = es.length := r2.length
      refine ⟨l1, l2, vs, ws, rfl, (show NodeAt X.K G2 l1 vs .lst from n3).mono c2.sub, (show NodeAt X.K G2 l2 ws .lst from n2).mono c2.sub, k (ItzS X.K l1 l2) as2 G2 H2 s2 ds.length (itZ ds es) c2 (x1.trans x2) ?_ q⟩
      refine ⟨fun as' G' H' σ' s' c' x => ⟨vs, ws, at1 c' x, at2 c' x, by omega, by omega⟩, fun i as' G' H' σ' s' hi c' x => ⟨vs, ws, vs[i]'(by omega), ws[i]'(by omega), at1 c' x, at2 c' x, List.getElem?_eq_getElem _, List.getElem?_eq_getElem _⟩,
        fun i as' G' H' σ' s' y H3 hi c' x q => ?_, fun i as' G' H' σ' s' y H3 hi c' x q => ?_⟩
      · obtain ⟨T, u, u2, rfl, hT, rfl, g1, g2⟩ := q
        obtain ⟨d, e1, e2⟩ := r3.get' (g1 vs (at1 c' x))
        obtain ⟨d2, e3, e4⟩ := r2.get' (g2 ws (at2 c' x))
        have sg : Same G' (upd G' T (.tup [u, u2])) := same_new (c'.gnone hT)
        refine ⟨upd G' T (.tup [u, u2]), .d (.nd .tup [d, d2]), c'.addG hT, ⟨sg, fun b0 hb hg => ?_⟩, ?_, d, d2, e1, e3, rfl⟩
        · rw [upd_ne (fun z => hb (by rw [z]; exact hT))]; exact hg
        · exact .nd (k := .tup) (SqT.of upd_same) (.cons ((e2.mono x).mono sg) (.cons ((e4.mono x).mono sg) .nil))
      · obtain ⟨T, u, u2, rfl, hT, rfl, g1, g2⟩ := q
        exact same_new hT
end
end DL
namespace DL
open PySem PySem.Spec PyProof.Rows L2
/-! ### [elt for a, b in zip(x, y, strict=True)], pure -/
def gP2 (K : PySem.W.Frag) (j1 j2 : Nat) : TG := gTup K 2 (gCons (gName j1) (gCons (gName j2) gNil))
/-- the state in the block -/
def S.blk2 (s : S) (vs : List Nat) (acc : List E) (j1 : Nat) (v1 : E) (j2 : Nat) (v2 : E) : S := (((s.wipe vs).push .lst acc).set j1 v1).set j2 v2
section
variable {X : Cx} {F : Fr} {s : S} {elt iter : Expr} {scope : Scope} {own : List (Str × Nat)} {pos p1 p2 tp : Pos} {x1 x2 : Str} {j1 j2 kk B : Nat}
theorem pg_B2 (bx : Bx X B) (hn1 : ∀ Y, IsBlk X scope Y → NmW Y j1 x1) (hn2 : ∀ Y, IsBlk X scope Y → NmW Y j2 x2) (st : Shared) (H : Hp) (C : Addr) (cl : List (Str × Addr)) (fp : List Addr) :
    PG (X.blk st H scope (compEnvC scope cl C X.env) fp) (.Tuple [.Name x1 p1, .Name x2 p2] kk tp) (gP2 X.K j1 j2) := by
  have m1 := hn1 _ ⟨st, H, C, cl, fp, rfl⟩
  have m2 := hn2 _ ⟨st, H, C, cl, fp, rfl⟩
  exact pg_tup (n := 2) bx.calm (pgs_cons (pg_name m1.nd m1.nm m1.loc m1.hf) (pgs_cons (pg_name m2.nd m2.nm m2.loc m2.hf) pgs_nil))
/-- pairs of two lists, the element pure -/
def LcZ (X : Cx) (F : Fr) (tg iter elt : Expr) (scope : Scope) (vs : List Nat) (j1 j2 : Nat) (s : S) (Θ : List D → Prop) : Prop :=
  JI X F tg iter s fun n it s1 => s1 = s ∧ n ≤ 16000000 ∧ ∃ (ds es : List D) (f : Nat → D), it = itZ ds es ∧
    (∀ i d1 d2 acc, i < n → ds[i]? = some d1 → es[i]? = some d2 → ∀ Y, IsBlk X scope Y → JE Y F elt (s.blk2 vs acc j1 (.d d1) j2 (.d d2)) fun y s3 => y = .d (f i) ∧ s3 = s.blk2 vs acc j1 (.d d1) j2 (.d d2)) ∧ Θ ((List.range n).map f)
theorem push_wipe {vs : List Nat} {acc : List E} : ((s.wipe vs).push .lst acc).wipe vs = (s.wipe vs).push .lst acc := by
  have h := congrArg S.sl (wipe_wipe (s := s) (vs := vs))
  have h : wipeN (wipeN s.sl vs) vs = wipeN s.sl vs := h
  show (⟨wipeN (wipeN s.sl vs) vs, _, _⟩ : S) = ⟨wipeN s.sl vs, _, _⟩
  rw [h]
  rfl
theorem push_put {vs : List Nat} {acc acc' : List E} : ((s.wipe vs).push .lst acc).put s.ce.length .lst acc' = (s.wipe vs).push .lst acc' := by
  show (⟨_, setN (s.ce ++ [Cell.nd .lst _]) s.ce.length _, _⟩ : S) = ⟨_, s.ce ++ [_], _⟩
  rw [setN_eq, List.set_append_right _ _ (Nat.le_refl _)]
  simp
  exact ⟨rfl, rfl⟩
theorem lcZ_read {Θ : List D → Prop} (hj1 : j1 ∈ own.map (·.2)) (hj2 : j2 ∈ own.map (·.2)) {tg : Expr} (h : LcZ X F tg iter elt scope (own.map (·.2)) j1 j2 s Θ) :
    ∀ as G H σ (Q : VK), Cz X F as G H σ s → (∀ v as' G' H' ds, Cz X F as' G' H' σ (s.push .lst (ds.map .d)) → Ext as as' G G' → VE X.K G' as' v (.r s.ce.length) → Θ ds → Q v H') → tLc (semI X tg iter) (gP2 X.K j1 j2) (ttB X scope []) (teB X scope elt) (own.map (·.2)) σ H Q := by
  refine fun as G H σ Q c k => h as G H σ _ c fun J as1 G1 H1 s1 n it c1 x1 okJ ⟨q1, q2, ds, es, f, q3, q4, q5⟩ => ?_
  subst q1 q3
  intro D hD
  have c1' := (c1.wipe (own.map (·.2))).addO (kd := .lst) (o := .lst []) (vs := []) (es := []) hD upd_same .nil
  have hk : s1.ce.length = as1.length := c1.len.symm
  refine ⟨fun i m H' => m = n - i ∧ i ≤ n ∧ ∃ as' G', Cz X F as' G' H' (wipe σ (own.map (·.2))) ((s1.wipe (own.map (·.2))).push .lst (((List.range i).map f).map .d)) ∧ as1 ++ [D] <+: as' ∧ Same G1 G', ⟨n, by simp, Nat.zero_le _, _, _, c1', List.prefix_refl _, Same.refl _⟩, ?_⟩
  rintro i m H' ⟨rfl, hi, as', G', c', pr, sg⟩
  have prD : as'[s1.ce.length]? = some D := pre_get pr (by rw [hk, List.getElem?_append_right (Nat.le_refl _)]; simp)
  by_cases hlt : i < n
  · refine .inr ⟨okJ.go i as' G' H' _ _ hlt c' sg, fun H2 => ∃ as' G', Cz X F as' G' H2 (wipe σ (own.map (·.2))) ((s1.wipe (own.map (·.2))).push .lst (((List.range (i + 1)).map f).map .d)) ∧ as1 ++ [D] <+: as' ∧ Same G1 G', fun H2 ⟨as2, G2, c2, p2, g2⟩ => ⟨n - (i + 1), by omega, rfl, hlt, as2, G2, c2, p2, g2⟩, fun v H2 y => ?_⟩
    obtain ⟨G2, e, c2, ⟨x2, _⟩, ve, d1, d2, e1, e2, rfl⟩ := okJ.yld i as' G' H' _ _ v H2 hlt c' sg y
    cases ve with
    | @nd a us _ _ nn rr =>
      cases rr with
      | @cons v1 _ _ _ r1 rr =>
        cases rr with
        | @cons v2 _ _ _ r2 rr =>
          cases rr
          have c3 := (c2.set (i := j1) (e := .d d1) r1).set (i := j2) (e := .d d2) r2
          have ws : wipe (((wipe σ (own.map (·.2))).set j1 (some v1)).set j2 (some v2)) (own.map (·.2)) = wipe σ (own.map (·.2)) := wipe_same (by rw [List.length_set, List.length_set, wipe_length]) fun l hl => by
            rw [List.getElem?_set_ne (fun z => hl (by rw [← z]; exact hj2)), List.getElem?_set_ne (fun z => hl (by rw [← z]; exact hj1)), wipe_out' hl]
          refine ⟨a, [v1, v2], rfl, (show NodeAt X.K G2 a [v1, v2] .tup from nn).mono c2.sub, rfl, v1, [v2], rfl, v2, [], rfl, rfl, ws, ?_⟩
          refine fun Y hY pins st I => jts_run (F := F) (ifs := []) (Ψ := fun b s2 => b = true ∧ s2 = s1.blk2 (own.map (·.2)) (((List.range i).map f).map .d) j1 (.d d1) j2 (.d d2)) ⟨rfl, rfl⟩ (cz_blk hY c3) (fun b as4 G4 H4 s4 c4 x4 ⟨qb, qs⟩ => ?_) pins st I
          subst qb qs
          simp only [if_true]
          refine fun Y2 hY2 => q4 i d1 d2 _ hlt e1 e2 Y2 hY2 as4 G4 H4 _ _ (cz_blk hY2 (cz_ublk hY c4)) fun y as5 G5 H5 y' s5 c5 x5 ve5 ⟨w1, w2⟩ => ?_
          subst w1 w2
          have c5 := cz_ublk hY2 c5
          rw [hY2.K] at ve5
          have p5 : as1 ++ [D] <+: as5 := (pr.trans x4.pre).trans x5.pre
          have prD5 : as5[s1.ce.length]? = some D := pre_get p5 (by rw [hk, List.getElem?_append_right (Nat.le_refl _)]; simp)
          have hce : (s1.blk2 (own.map (·.2)) (((List.range i).map f).map .d) j1 (.d d1) j2 (.d d2)).ce[s1.ce.length]? = some (.nd .lst (((List.range i).map f).map .d)) := by
            show (s1.ce ++ [Cell.nd .lst _])[s1.ce.length]? = _
            rw [List.getElem?_append_right (Nat.le_refl _)]; simp
          obtain ⟨b, ws5, y1, y2, y3⟩ := c5.cells _ _ _ hce
          rw [prD5] at y1
          cases y1
          have y2' : H5 D = some (.lst ws5) := y2
          have hl := Paired.length y3
          refine ⟨ws5, y2', by rw [hl, List.length_map, List.length_map, List.length_range, sizeLine_eq]; omega, ?_⟩
          have c6 := (c5.put (kd := .lst) (es := ((List.range i).map f).map .d ++ [.d (f i)]) (o := .lst (ws5 ++ [y])) hce prD5 upd_same (y3.snoc ve5)).wipe (own.map (·.2))
          rw [ws] at c6
          have eS : ((s1.blk2 (own.map (·.2)) (((List.range i).map f).map .d) j1 (.d d1) j2 (.d d2)).put s1.ce.length .lst (((List.range i).map f).map .d ++ [.d (f i)])).wipe (own.map (·.2)) = (s1.wipe (own.map (·.2))).push .lst (((List.range (i + 1)).map f).map .d) := by
            show (((((s1.wipe (own.map (·.2))).push .lst (((List.range i).map f).map .d)).put s1.ce.length .lst (((List.range i).map f).map .d ++ [.d (f i)])).set j1 (.d d1)).set j2 (.d d2)).wipe (own.map (·.2)) = _
            rw [set_wipe hj2, set_wipe hj1, push_put, push_wipe, List.range_succ]
            simp
          rw [eS] at c6
          exact ⟨as5, G5, c6, p5, ((sg.trans x2).trans x4.sub).trans x5.sub⟩
  · have e : i = n := by omega
    subst e
    refine .inl ⟨okJ.stop as' G' H' _ _ c' sg, ?_⟩
    have x : Ext as1 as' G1 G' := ⟨pre_snoc.trans pr, sg⟩
    exact k _ as' G' H' _ (c1.back c' x) (x1.trans x) ⟨D, prD, rfl⟩ q5
/-- .. frozen -/
theorem je_lcZ {Φ : E → S → Prop} (bx : Bx X B) (ok : BlkOk X.N X.env.scope scope own) (hj1 : j1 ∈ own.map (·.2)) (hj2 : j2 ∈ own.map (·.2)) (hn1 : ∀ Y, IsBlk X scope Y → NmW Y j1 x1) (hn2 : ∀ Y, IsBlk X scope Y → NmW Y j2 x2)
    (h : LcZ X F (.Tuple [.Name x1 p1, .Name x2 p2] kk tp) iter elt scope (own.map (·.2)) j1 j2 s fun ds => Φ (.d (.nd .lst ds)) s)
    (hs : ∀ x, foldedSetIterable iter X.env x = pure x := by intro _; rfl) : JE X F (.ListComp elt [⟨.Tuple [.Name x1 p1, .Name x2 p2] kk tp, iter, [], 0⟩] scope pos) s Φ :=
  je_pop (kd := .lst) (je_of (pe_lc bx.calm bx.nd (pi_sem X _ iter) ok (pg_B2 bx hn1 hn2) pts_B pe_B hs) fun as G H σ Q c k => lcZ_read hj1 hj2 h as G H σ Q c fun v as' G' H' ds c' x' ve q => k v as' G' H' _ _ c' x' ve ⟨ds, rfl, rfl, q⟩)
/-- name = .. on one line -/
theorem js_setLcZ {i : Nat} {y : Str} {py spos : Pos} {P : Po} (bx : Bx X B) (ny : NmW X i y) (ly : X.env.scope.names.lookup y = some .local) (hsw : swapsWith (.ListComp elt [⟨.Tuple [.Name x1 p1, .Name x2 p2] kk tp, iter, [], 0⟩] scope pos) (some (.Name y py)) spos.line X.env = pure true)
    (ok : BlkOk X.N X.env.scope scope own) (hj1 : j1 ∈ own.map (·.2)) (hj2 : j2 ∈ own.map (·.2)) (hn1 : ∀ Y, IsBlk X scope Y → NmW Y j1 x1) (hn2 : ∀ Y, IsBlk X scope Y → NmW Y j2 x2)
    (h : LcZ X F (.Tuple [.Name x1 p1, .Name x2 p2] kk tp) iter elt scope (own.map (·.2)) j1 j2 s fun ds => P.nx (s.set i (.d (.nd .lst ds))))
    (hs : ∀ x, foldedSetIterable iter X.env x = pure x := by intro _; rfl) : JS X F (.Assign [.Name y py] (.ListComp elt [⟨.Tuple [.Name x1 p1, .Name x2 p2] kk tp, iter, [], 0⟩] scope pos) spos) s P := fun as G H σ D c k =>
  PS.sem (ps_setLc bx.calm bx.nd ny.nm ly hsw (pi_sem X _ iter) ok (pg_B2 bx hn1 hn2) pts_B pe_B hs) (lcZ_read hj1 hj2 h as G H σ _ c fun v as1 G1 H1 ds c1 x1 ve q => by
    obtain ⟨G2, c2, sg, rep⟩ := c.popFrz c1 x1
    obtain ⟨b, hb, rfl⟩ := ve
    exact k.nx as G2 H1 _ _ (c2.set (i := i) (e := .d (.nd .lst ds)) (rep b hb)) (x1.sub.trans sg) q)
end
end DL
namespace DL
open PySem PySem.Spec PyProof.Rows L2
section
variable {X : Cx} {F : Fr} {s : S} {Φ : E → S → Prop}
theorem VEs_app {K : PySem.W.Frag} {G : Hp} {as : List Addr} {vs ws : List V} {es fs : List E} (h : VEs K G as vs es) (h2 : VEs K G as ws fs) : VEs K G as (vs ++ ws) (es ++ fs) := by
  induction h with
  | nil => exact h2
  | cons a t ih => exact .cons a ih
/-- xs + ys, lists: a new one, owned -/
theorem jr_catO {e1 e2 : E} {ds1 ds2 : List D} (h1 : s.node e1 = some (.lst, ds1.map .d)) (h2 : s.node e2 = some (.lst, ds2.map .d)) (hl : ds1.length + ds2.length ≤ sizeLine) (q : Φ (.r s.ce.length) (s.push .lst ((ds1 ++ ds2).map .d))) : JR X F (binaryOp .Add) e1 e2 s Φ :=
  jr_of op_catS fun as G H σ x y Q c v1 v2 k => by
    obtain ⟨a, vs, rfl, n1, w1⟩ := c.node v1 h1
    obtain ⟨b, ws, rfl, n2, w2⟩ := c.node v2 h2
    refine ⟨a, b, vs, ws, rfl, rfl, n1, n2, by rw [w1.reps.length, w2.reps.length]; exact hl, fun p hp => ?_⟩
    have w : VEs X.K G as (vs ++ ws) ((ds1 ++ ds2).map .d) := by rw [List.map_append]; exact VEs_app w1 w2
    exact k _ _ G _ (.r s.ce.length) _ (c.addO (kd := .lst) hp upd_same w) ⟨pre_snoc, Same.refl _⟩ ⟨p, by rw [← c.len, List.getElem?_append_right (Nat.le_refl _)]; simp, rfl⟩ q
end
end DL
namespace DL
open PySem PySem.Spec PyProof.Rows L2
/-! ### zip(a, b, c, strict=True) over three lists of one length -/
theorem F_tcz3 (a b c : Value) : checkTypeCall "zip" ⟨[a, b, c], [(Str.ofString "strict", .bool true)]⟩ = pure () := by kernel_rfl
theorem F_ncz3 (a b c : Value) : checkBuiltinCall "zip.__new__" ⟨[.type "zip", a, b, c], [(Str.ofString "strict", .bool true)]⟩ = pure () := by kernel_rfl
theorem F_aoz3 (obj a b c : Value) : argsOk "object.__init__" ⟨[obj, a, b, c], [(Str.ofString "strict", .bool true)]⟩ := by unfold argsOk; kernel_rfl
abbrev IsTrip (h : Heap) (T : Nat) (a b c : Value) : Prop := h.get? T = some { cls := .type "tuple", data := .seq #[a, b, c] }
section
variable {prog : Program} {w : World} {A : Around} {E : Value → Shared → Prop} {s : Shared}
theorem wpAny_updateSeq_trip {T : Nat} {a b c x : Value} {k : Nat} {Q : Unit → Shared → Prop} (hT : IsTrip s.heap T a b c)
    (h : ∀ h', h'.get? T = some { cls := .type "tuple", data := .seq ((#[a, b, c] : Array Value).setIfInBounds k x) } → Heap.SameBut T s.heap h' → Q () { s with heap := h' }) :
    wpAny (model prog w) A (updateSeq T (·.setIfInBounds k x)) Q E s := by
  refine wpAny_updateSeq hT rfl (h _ ?_ (Heap.SameBut.update ..))
  rw [Heap.get?_update_self _ hT rfl]
  simp [Obj.mapSeq]
theorem z3_item {I l1 l2 l3 k : Nat} {xs ys zs : Array Value} {x y u a b c : Value} {Q : Value → Shared → Prop} (D : l1 < I ∧ l2 < I ∧ l3 < I)
    (hz : ZipS s.heap (I + 5) (I + 3) (I + 4) .none) (hTI : IsTrip s.heap (I + 3) (.ref I) (.ref (I + 1)) (.ref (I + 2))) (hTO : IsTrip s.heap (I + 4) a b c)
    (h1 : s.heap.IsListIter I l1 k) (h2 : s.heap.IsListIter (I + 1) l2 k) (h3 : s.heap.IsListIter (I + 2) l3 k) (hl1 : s.heap.IsList l1 xs) (hl2 : s.heap.IsList l2 ys) (hl3 : s.heap.IsList l3 zs) (hx : xs[k]? = some x) (hy : ys[k]? = some y) (hu : zs[k]? = some u)
    (hQ : ∀ h', ZipS h' (I + 5) (I + 3) (I + 4) (rawInt s.heap.objs.size) → IsTrip h' (I + 4) x y u → h'.IsListIter I l1 (k + 1) → h'.IsListIter (I + 1) l2 (k + 1) → h'.IsListIter (I + 2) l3 (k + 1) → IsTrip h' s.heap.objs.size x y u → h'.objs.size = s.heap.objs.size + 1 →
      (∀ (e : Nat) o, e ≠ I + 5 → e ≠ I + 4 → e ≠ I → e ≠ I + 1 → e ≠ I + 2 → s.heap.get? e = some o → h'.get? e = some o) → Q (.ref s.heap.objs.size) { s with heap := h' }) :
    wpAny (model prog w) A (Builtin.«zip.__next__» ⟨[.ref (I + 5)], []⟩) (fun fin s' => ∃ v, fin = .done (.ret v) ∧ Q v s') E s := by
  obtain ⟨D1, D2, D3⟩ := D
  show wpAny _ _ (field (.ref (I + 5)) 2 >>= _) _ _ _
  refine wpAny_bind (wpAny_field hz rfl (x := .bool true) rfl ?_)
  show wpAny _ _ (field (.ref (I + 5)) 3 >>= _) _ _ _
  refine wpAny_bind (wpAny_field hz rfl (x := .ref (I + 3)) rfl (wpAny_bind (wpAny_seqItems hTI rfl ?_)))
  show wpAny _ _ (Builtin.SmallTypes.ownedTupleIsFree (.ref (I + 5)) >>= _) _ _ _
  refine wpAny_bind ?_
  unfold Builtin.SmallTypes.ownedTupleIsFree
  refine wpAny_bind (wpAny_field hz rfl (x := .none) rfl (wpAny_pure ?_))
  simp only [if_true]
  refine wpAny_bind (wpAny_rule (wpAny_bind (wpAny_field hz rfl (x := .ref (I + 4)) rfl (wpAny_bind (wpAny_setField_rec hz (by simp) fun g1 z1 s1 => wpAny_bind ?_)))))
  replace z1 : ZipS g1 (I + 5) (I + 3) (I + 4) .ellipsis := z1
  simp only [List.zipIdx_cons, List.zipIdx_nil, List.forIn_cons, List.forIn_nil]
  refine wpAny_bind (wpAny_bind (wpAny_onRaise ?_))
  show wpAny _ _ (Builtin.SmallTypes.nextOrEnd (.ref I)) _ _ _
  refine nOE_item (h1.extBut s1.extBut (by show @Ne Nat _ _; omega)) (hl1.extBut s1.extBut (by show @Ne Nat _ _; omega)) hx fun g2 a2 s2 => ?_
  have t2 : IsTrip g2 (I + 4) a b c := s2.extBut _ _ (by show @Ne Nat _ _; omega) (s1.extBut _ _ (by show @Ne Nat _ _; omega) hTO)
  refine wpAny_bind (wpAny_seqItems t2 rfl (wpAny_bind (wpAny_updateSeq_trip t2 fun g3 t3 s3 => wpAny_bind (wpAny_letGo (wpAny_pure ?_)))))
  replace t3 : IsTrip g3 (I + 4) x b c := t3
  refine wpAny_bind (wpAny_bind (wpAny_onRaise ?_))
  show wpAny _ _ (Builtin.SmallTypes.nextOrEnd (.ref (I + 1))) _ _ _
  refine nOE_item (((h2.extBut s1.extBut (by show @Ne Nat _ _; omega)).extBut s2.extBut (by show @Ne Nat _ _; omega)).extBut s3.extBut (by show @Ne Nat _ _; omega)) (((hl2.extBut s1.extBut (by show @Ne Nat _ _; omega)).extBut s2.extBut (by show @Ne Nat _ _; omega)).extBut s3.extBut (by show @Ne Nat _ _; omega)) hy fun g4 a4 s4 => ?_
  have t4 : IsTrip g4 (I + 4) x b c := s4.extBut _ _ (by show @Ne Nat _ _; omega) t3
  refine wpAny_bind (wpAny_seqItems t4 rfl (wpAny_bind (wpAny_updateSeq_trip t4 fun g5 t5 s5 => wpAny_bind (wpAny_letGo (wpAny_pure ?_)))))
  replace t5 : IsTrip g5 (I + 4) x y c := t5
  refine wpAny_bind (wpAny_bind (wpAny_onRaise ?_))
  show wpAny _ _ (Builtin.SmallTypes.nextOrEnd (.ref (I + 2))) _ _ _
  refine nOE_item (((((h3.extBut s1.extBut (by show @Ne Nat _ _; omega)).extBut s2.extBut (by show @Ne Nat _ _; omega)).extBut s3.extBut (by show @Ne Nat _ _; omega)).extBut s4.extBut (by show @Ne Nat _ _; omega)).extBut s5.extBut (by show @Ne Nat _ _; omega)) (((((hl3.extBut s1.extBut (by show @Ne Nat _ _; omega)).extBut s2.extBut (by show @Ne Nat _ _; omega)).extBut s3.extBut (by show @Ne Nat _ _; omega)).extBut s4.extBut (by show @Ne Nat _ _; omega)).extBut s5.extBut (by show @Ne Nat _ _; omega)) hu fun g6 a6 s6 => ?_
  have t6 : IsTrip g6 (I + 4) x y c := s6.extBut _ _ (by show @Ne Nat _ _; omega) t5
  refine wpAny_bind (wpAny_seqItems t6 rfl (wpAny_bind (wpAny_updateSeq_trip t6 fun g7 t7 s7 => wpAny_bind (wpAny_letGo (wpAny_pure (wpAny_pure ?_))))))
  replace t7 : IsTrip g7 (I + 4) x y u := t7
  have ext : ∀ (e : Nat) o, e ≠ I + 5 → e ≠ I + 4 → e ≠ I → e ≠ I + 1 → e ≠ I + 2 → s.heap.get? e = some o → g7.get? e = some o := fun e o n1 n2 n3 n4 n5 q =>
    s7.extBut _ _ n2 (s6.extBut _ _ n5 (s5.extBut _ _ n2 (s4.extBut _ _ n4 (s3.extBut _ _ n2 (s2.extBut _ _ n3 (s1.extBut _ _ n1 q))))))
  have zz : g7.objs.size = s.heap.objs.size := by rw [s7.1, s6.1, s5.1, s4.1, s3.1, s2.1, s1.1]
  have z5 : ZipS g7 (I + 5) (I + 3) (I + 4) .ellipsis := s7.extBut _ _ (by show @Ne Nat _ _; omega) (s6.extBut _ _ (by show @Ne Nat _ _; omega) (s5.extBut _ _ (by show @Ne Nat _ _; omega) (s4.extBut _ _ (by show @Ne Nat _ _; omega) (s3.extBut _ _ (by show @Ne Nat _ _; omega) (s2.extBut _ _ (by show @Ne Nat _ _; omega) z1)))))
  have b1 : g7.IsListIter I l1 (k + 1) := ((((a2.extBut s3.extBut (by show @Ne Nat _ _; omega)).extBut s4.extBut (by show @Ne Nat _ _; omega)).extBut s5.extBut (by show @Ne Nat _ _; omega)).extBut s6.extBut (by show @Ne Nat _ _; omega)).extBut s7.extBut (by show @Ne Nat _ _; omega)
  have b2 : g7.IsListIter (I + 1) l2 (k + 1) := ((a4.extBut s5.extBut (by show @Ne Nat _ _; omega)).extBut s6.extBut (by show @Ne Nat _ _; omega)).extBut s7.extBut (by show @Ne Nat _ _; omega)
  have b3 : g7.IsListIter (I + 2) l3 (k + 1) := a6.extBut s7.extBut (by show @Ne Nat _ _; omega)
  refine wpAny_bind (wpAny_seqItems t7 rfl (wpAny_bind (wpAny_newTuple ?_)))
  show wpAny _ _ (Builtin.SmallTypes.ownedTupleHandOut (.ref (I + 5)) (.ref g7.objs.size) >>= _) _ _ _
  refine wpAny_bind ?_
  unfold Builtin.SmallTypes.ownedTupleHandOut
  have z6 : ZipS (g7.push { cls := .type "tuple", data := .seq #[x, y, u] }) (I + 5) (I + 3) (I + 4) .ellipsis := Heap.get?_push_of_some _ z5
  refine wpAny_bind (wpAny_setField_rec z6 (by simp) fun g8 z7 s8 => ?_)
  replace z7 : ZipS g8 (I + 5) (I + 3) (I + 4) (rawInt g7.objs.size) := z7
  refine wpAny_setField_rec z7 (by simp) fun g9 z8 s9 => ?_
  replace z8 : ZipS g9 (I + 5) (I + 3) (I + 4) (rawInt g7.objs.size) := z8
  have up : ∀ (e : Nat) o, e ≠ I + 5 → g7.get? e = some o → g9.get? e = some o := fun e o n q => s9.extBut _ _ n (s8.extBut _ _ n (Heap.get?_push_of_some _ q))
  have zl : I + 5 < g7.objs.size := Heap.lt_size z5
  have t8 : IsTrip g9 g7.objs.size x y u := s9.extBut _ _ (Nat.ne_of_gt zl) (s8.extBut _ _ (Nat.ne_of_gt zl) (Heap.get?_push_size _ rfl))
  have w8 : g9.objs.size = g7.objs.size + 1 := by rw [s9.1, s8.1, Heap.size_push]
  refine wpAny_pure ⟨_, rfl, ?_⟩
  show Q (.ref g7.objs.size) _
  rw [zz] at z8 t8 w8 ⊢
  exact hQ g9 z8 (up _ _ (by show @Ne Nat _ _; omega) t7) (b1.at fun o q => up _ o (by show @Ne Nat _ _; omega) q) (b2.at fun o q => up _ o (by show @Ne Nat _ _; omega) q) (b3.at fun o q => up _ o (by show @Ne Nat _ _; omega) q) t8 w8 fun e o n1 n2 n3 n4 n5 q => up e o n1 (ext e o n1 n2 n3 n4 n5 q)
theorem z3_end {I l1 l2 l3 k : Nat} {xs ys zs : Array Value} {a b c : Value} {Q : Fin → Shared → Prop} (hh : A.handled = none) (D : l1 < I ∧ l2 < I ∧ l3 < I)
    (hz : ZipS s.heap (I + 5) (I + 3) (I + 4) .none) (hTI : IsTrip s.heap (I + 3) (.ref I) (.ref (I + 1)) (.ref (I + 2))) (hTO : IsTrip s.heap (I + 4) a b c)
    (h1 : s.heap.IsListIter I l1 k) (h2 : s.heap.IsListIter (I + 1) l2 k) (h3 : s.heap.IsListIter (I + 2) l3 k) (hl1 : s.heap.IsList l1 xs) (hl2 : s.heap.IsList l2 ys) (hl3 : s.heap.IsList l3 zs) (hx : xs[k]? = none) (hy : ys[k]? = none) (hu : zs[k]? = none)
    (hE : ∀ h' e, (∀ (c : Nat) o, c ≠ I + 5 → c ≠ I + 4 → c ≠ I → c ≠ I + 1 → c ≠ I + 2 → s.heap.get? c = some o → h'.get? c = some o) → (∃ o, h'.get? e = some o ∧ o.cls = .type "StopIteration") → E (.ref e) { s with heap := h' }) :
    wpAny (model prog w) A (Builtin.«zip.__next__» ⟨[.ref (I + 5)], []⟩) Q E s := by
  obtain ⟨D1, D2, D3⟩ := D
  show wpAny _ _ (field (.ref (I + 5)) 2 >>= _) _ _ _
  refine wpAny_bind (wpAny_field hz rfl (x := .bool true) rfl ?_)
  show wpAny _ _ (field (.ref (I + 5)) 3 >>= _) _ _ _
  refine wpAny_bind (wpAny_field hz rfl (x := .ref (I + 3)) rfl (wpAny_bind (wpAny_seqItems hTI rfl ?_)))
  show wpAny _ _ (Builtin.SmallTypes.ownedTupleIsFree (.ref (I + 5)) >>= _) _ _ _
  refine wpAny_bind ?_
  unfold Builtin.SmallTypes.ownedTupleIsFree
  refine wpAny_bind (wpAny_field hz rfl (x := .none) rfl (wpAny_pure ?_))
  simp only [if_true]
  refine wpAny_bind (wpAny_rule (wpAny_bind (wpAny_field hz rfl (x := .ref (I + 4)) rfl (wpAny_bind (wpAny_setField_rec hz (by simp) fun g1 z1 s1 => wpAny_bind ?_)))))
  replace z1 : ZipS g1 (I + 5) (I + 3) (I + 4) .ellipsis := z1
  simp only [List.zipIdx_cons, List.zipIdx_nil, List.forIn_cons, List.forIn_nil]
  refine wpAny_bind (wpAny_bind (wpAny_onRaise ?_))
  show wpAny _ _ (Builtin.SmallTypes.nextOrEnd (.ref I)) _ _ _
  refine nOE_end hh (h1.extBut s1.extBut (by show @Ne Nat _ _; omega)) (hl1.extBut s1.extBut (by show @Ne Nat _ _; omega)) hx fun g2 s2 => ?_
  have z2 : ZipS g2 (I + 5) (I + 3) (I + 4) .ellipsis := s2 _ _ (by show @Ne Nat _ _; omega) z1
  refine wpAny_bind (wpAny_setField_rec z2 (by simp) fun g3 z3 s3 => ?_)
  replace z3 : ZipS g3 (I + 5) (I + 3) (I + 4) .none := z3
  refine wpAny_bind ?_
  refine wpAny_bind ?_
  simp only [List.drop_succ_cons, List.drop_zero, List.zipIdx_cons, List.zipIdx_nil, List.forIn_cons, List.forIn_nil]
  refine wpAny_bind (wpAny_bind ?_)
  refine nOE_end hh (((h2.extBut s1.extBut (by show @Ne Nat _ _; omega)).extBut s2 (by show @Ne Nat _ _; omega)).extBut s3.extBut (by show @Ne Nat _ _; omega)) (((hl2.extBut s1.extBut (by show @Ne Nat _ _; omega)).extBut s2 (by show @Ne Nat _ _; omega)).extBut s3.extBut (by show @Ne Nat _ _; omega)) hy fun g4 s4 => ?_
  simp only [Option.isSome_none, Bool.false_eq_true, if_false]
  refine wpAny_pure ?_
  refine wpAny_bind (wpAny_bind ?_)
  refine nOE_end hh ((((h3.extBut s1.extBut (by show @Ne Nat _ _; omega)).extBut s2 (by show @Ne Nat _ _; omega)).extBut s3.extBut (by show @Ne Nat _ _; omega)).extBut s4 (by show @Ne Nat _ _; omega)) ((((hl3.extBut s1.extBut (by show @Ne Nat _ _; omega)).extBut s2 (by show @Ne Nat _ _; omega)).extBut s3.extBut (by show @Ne Nat _ _; omega)).extBut s4 (by show @Ne Nat _ _; omega)) hu fun g5 s5 => ?_
  simp only [Option.isSome_none, Bool.false_eq_true, if_false]
  refine wpAny_pure (wpAny_pure ?_)
  refine wpAny_bind (wpAny_rule ?_)
  unfold Builtin.SmallTypes.stopIteration
  show wpAny _ _ (newExc (.type "StopIteration") [] >>= _) _ _ _
  refine wpAny_bind ?_
  simp only [newExc, newTuple]
  refine wpAny_bind (wpAny_newObj_type ?_ (by size_fits))
  refine wpAny_bind (m := firstArgMember _ _) (wpAny_of_eq (a := Value.none) (by first | rfl | (simp only [firstArgMember]; rfl)) ?_)
  refine wpAny_newObj_type ?_ (by size_fits)
  simp only [raiseNew]
  refine wpAny_bind (wpAny_handled ?_)
  rw [hh]
  refine wpAny_throw ?_
  exact hE _ _ (fun c o n1 _ n3 n4 n5 q => Heap.get?_push_of_some _ (Heap.get?_push_of_some _ (s5 _ _ n5 (s4 _ _ n4 (s3.extBut _ _ n1 (s2 _ _ n3 (s1.extBut _ _ n1 q))))))) ⟨_, Heap.get?_push_size _ rfl, rfl⟩
theorem z3_next_item {I l1 l2 l3 k : Nat} {xs ys zs : Array Value} {x y u a b c : Value} {Q : Option Value → Shared → Prop} (D : l1 < I ∧ l2 < I ∧ l3 < I)
    (hz : ZipS s.heap (I + 5) (I + 3) (I + 4) .none) (hTI : IsTrip s.heap (I + 3) (.ref I) (.ref (I + 1)) (.ref (I + 2))) (hTO : IsTrip s.heap (I + 4) a b c)
    (h1 : s.heap.IsListIter I l1 k) (h2 : s.heap.IsListIter (I + 1) l2 k) (h3 : s.heap.IsListIter (I + 2) l3 k) (hl1 : s.heap.IsList l1 xs) (hl2 : s.heap.IsList l2 ys) (hl3 : s.heap.IsList l3 zs) (hx : xs[k]? = some x) (hy : ys[k]? = some y) (hu : zs[k]? = some u)
    (hQ : ∀ h', ZipS h' (I + 5) (I + 3) (I + 4) (rawInt s.heap.objs.size) → IsTrip h' (I + 4) x y u → h'.IsListIter I l1 (k + 1) → h'.IsListIter (I + 1) l2 (k + 1) → h'.IsListIter (I + 2) l3 (k + 1) → IsTrip h' s.heap.objs.size x y u → h'.objs.size = s.heap.objs.size + 1 →
      (∀ (e : Nat) o, e ≠ I + 5 → e ≠ I + 4 → e ≠ I → e ≠ I + 1 → e ≠ I + 2 → s.heap.get? e = some o → h'.get? e = some o) → Q (some (.ref s.heap.objs.size)) { s with heap := h' }) :
    wpAny (model prog w) A (pyNext (.ref (I + 5))) Q E s := by
  have hT : s.TypeIs (.ref (I + 5)) "zip" := ⟨_, hz, rfl⟩
  unfold pyNext
  exact wpAny_bind (wpAny_attempt (wpAny_callSpecial?_slot (name := Str.ofString "__next__") hT F.slot_zip_next
    (wpAny_call_entry F.slot_zip_next hT F.entry_zip_next (z3_item D hz hTI hTO h1 h2 h3 hl1 hl2 hl3 hx hy hu fun h' a1 a2 a3 a4 a5 a6 a7 a8 => wpAny_pure (hQ h' a1 a2 a3 a4 a5 a6 a7 a8)) (F.args_zip_next_1 _))))
theorem z3_next_end {I l1 l2 l3 k : Nat} {xs ys zs : Array Value} {a b c : Value} {Q : Option Value → Shared → Prop} (hh : A.handled = none) (D : l1 < I ∧ l2 < I ∧ l3 < I)
    (hz : ZipS s.heap (I + 5) (I + 3) (I + 4) .none) (hTI : IsTrip s.heap (I + 3) (.ref I) (.ref (I + 1)) (.ref (I + 2))) (hTO : IsTrip s.heap (I + 4) a b c)
    (h1 : s.heap.IsListIter I l1 k) (h2 : s.heap.IsListIter (I + 1) l2 k) (h3 : s.heap.IsListIter (I + 2) l3 k) (hl1 : s.heap.IsList l1 xs) (hl2 : s.heap.IsList l2 ys) (hl3 : s.heap.IsList l3 zs) (hx : xs[k]? = none) (hy : ys[k]? = none) (hu : zs[k]? = none)
    (hQ : ∀ h', (∀ (c : Nat) o, c ≠ I + 5 → c ≠ I + 4 → c ≠ I → c ≠ I + 1 → c ≠ I + 2 → s.heap.get? c = some o → h'.get? c = some o) → Q none { s with heap := h' }) : wpAny (model prog w) A (pyNext (.ref (I + 5))) Q E s := by
  have hT : s.TypeIs (.ref (I + 5)) "zip" := ⟨_, hz, rfl⟩
  unfold pyNext
  refine wpAny_bind (wpAny_attempt (wpAny_callSpecial?_slot (name := Str.ofString "__next__") hT F.slot_zip_next
    (wpAny_call_entry F.slot_zip_next hT F.entry_zip_next (z3_end hh D hz hTI hTO h1 h2 h3 hl1 hl2 hl3 hx hy hu fun h' e hk he => ?_) (F.args_zip_next_1 _))))
  obtain ⟨o, ho, hc⟩ := he
  exact wpAny_bind (wpAny_isInstance (T := "StopIteration") (b := true) ⟨o, ho, hc⟩ isSubtype_stop (wpAny_pure (hQ _ hk)))
end
abbrev z3H1 (h : Heap) (l1 : Addr) : Heap := h.push { cls := .type "list_iterator", data := .fields #[.ref l1, .int 0 0] }
abbrev z3H2 (h : Heap) (l1 l2 : Addr) : Heap := (z3H1 h l1).push { cls := .type "list_iterator", data := .fields #[.ref l2, .int 0 0] }
abbrev z3H3 (h : Heap) (l1 l2 l3 : Addr) : Heap := (z3H2 h l1 l2).push { cls := .type "list_iterator", data := .fields #[.ref l3, .int 0 0] }
abbrev z3H4 (h : Heap) (l1 l2 l3 : Addr) : Heap := (z3H3 h l1 l2 l3).push { cls := .type "tuple", data := .seq #[.ref h.objs.size, .ref (z3H1 h l1).objs.size, .ref (z3H2 h l1 l2).objs.size] }
abbrev z3H5 (h : Heap) (l1 l2 l3 : Addr) : Heap := (z3H4 h l1 l2 l3).push { cls := .type "tuple", data := .seq #[.none, .none, .none] }
abbrev z3H6 (h : Heap) (l1 l2 l3 : Addr) : Heap := (z3H5 h l1 l2 l3).push { cls := .type "zip", data := .fields #[.none, .bool false, .bool true, .ref (z3H3 h l1 l2 l3).objs.size, .ref (z3H4 h l1 l2 l3).objs.size] }
theorem meets_zip3 (l1 l2 l3 : Addr) (xs ys zs : Array Value) :
    Meets (Builtin.«zip.__new__» ⟨[.type "zip", .ref l1, .ref l2, .ref l3], [(Str.ofString "strict", .bool true)]⟩) (fun _ R s => s.heap.IsList l1 xs ∧ s.heap.IsList l2 ys ∧ s.heap.IsList l3 zs ∧
      R (.ok (.ret (.ref (z3H5 s.heap l1 l2 l3).objs.size))) { s with heap := z3H6 s.heap l1 l2 l3 }) :=
  .of_wp fun prog w A R s h => by
    obtain ⟨hp, g, d, tk, os⟩ := s; obtain ⟨hl1, hl2, hl3, h⟩ := h
    have hsub := sub_zip
    have e1 : (Str.ofString "strict" != ("strict" : Str)) = false := by decide +kernel
    have hL1 : Heap.IsList (Shared.heap ⟨hp, g, d, tk, os⟩) l1 xs := hl1
    have hL2 : Heap.IsList (Shared.heap ⟨hp.push { cls := .type "list_iterator", data := .fields #[.ref l1, .int 0 0] }, g, d, tk, os⟩) l2 ys := Heap.IsList.push hl2 _
    have hL3 : Heap.IsList (Shared.heap ⟨(hp.push { cls := .type "list_iterator", data := .fields #[.ref l1, .int 0 0] }).push { cls := .type "list_iterator", data := .fields #[.ref l2, .int 0 0] }, g, d, tk, os⟩) l3 zs := Heap.IsList.push (Heap.IsList.push hl3 _) _
    wp_walk using wpAny_pyIter_list hL1, wpAny_pyIter_list hL2, wpAny_pyIter_list hL3
    exact ⟨_, rfl, h⟩
section
variable {prog : Program} {w : World} {A : Around} {E : Value → Shared → Prop} {s : Shared}
/-- the call: three iterators, two tuples, the zip -/
theorem call_zip3 {l1 l2 l3 : Addr} {xs ys zs : Array Value} {Q : Value → Shared → Prop} (hl1 : s.heap.IsList l1 xs) (hl2 : s.heap.IsList l2 ys) (hl3 : s.heap.IsList l3 zs)
    (h : ∀ h', ZipS h' (s.heap.objs.size + 5) (s.heap.objs.size + 3) (s.heap.objs.size + 4) .none → IsTrip h' (s.heap.objs.size + 3) (.ref s.heap.objs.size) (.ref (s.heap.objs.size + 1)) (.ref (s.heap.objs.size + 2)) →
      IsTrip h' (s.heap.objs.size + 4) .none .none .none → h'.IsListIter s.heap.objs.size l1 0 → h'.IsListIter (s.heap.objs.size + 1) l2 0 → h'.IsListIter (s.heap.objs.size + 2) l3 0 → (∀ c o, s.heap.get? c = some o → h'.get? c = some o) → Q (.ref (s.heap.objs.size + 5)) { s with heap := h' }) :
    wpAny (model prog w) A (call (.type "zip") [.ref l1, .ref l2, .ref l3] [(Str.ofString "strict", .bool true)]) Q E s := by
  refine callType_newKw F.called_zip (by decide) (F_tcz3 _ _ _) (F_ncz3 _ _ _) (fun obj => F_aoz3 obj _ _ _) F.entry_zip_new (meets_zip3 l1 l2 l3 xs ys zs) ⟨hl1, hl2, hl3, ?_⟩
  have n1 : (z3H1 s.heap l1).objs.size = s.heap.objs.size + 1 := Heap.size_push ..
  have n2 : (z3H2 s.heap l1 l2).objs.size = s.heap.objs.size + 2 := by rw [Heap.size_push, n1]
  have n3 : (z3H3 s.heap l1 l2 l3).objs.size = s.heap.objs.size + 3 := by rw [Heap.size_push, n2]
  have n4 : (z3H4 s.heap l1 l2 l3).objs.size = s.heap.objs.size + 4 := by rw [Heap.size_push, n3]
  have n5 : (z3H5 s.heap l1 l2 l3).objs.size = s.heap.objs.size + 5 := by rw [Heap.size_push, n4]
  have g6 : (z3H6 s.heap l1 l2 l3).get? (z3H5 s.heap l1 l2 l3).objs.size = some _ := Heap.get?_push_size _ rfl
  have g5 : (z3H6 s.heap l1 l2 l3).get? (z3H4 s.heap l1 l2 l3).objs.size = some _ := Heap.get?_push_of_some _ (Heap.get?_push_size _ rfl)
  have g4 : (z3H6 s.heap l1 l2 l3).get? (z3H3 s.heap l1 l2 l3).objs.size = some _ := Heap.get?_push_of_some _ (Heap.get?_push_of_some _ (Heap.get?_push_size _ rfl))
  have g3 : (z3H6 s.heap l1 l2 l3).get? (z3H2 s.heap l1 l2).objs.size = some _ := Heap.get?_push_of_some _ (Heap.get?_push_of_some _ (Heap.get?_push_of_some _ (Heap.get?_push_size _ rfl)))
  have g2 : (z3H6 s.heap l1 l2 l3).get? (z3H1 s.heap l1).objs.size = some _ := Heap.get?_push_of_some _ (Heap.get?_push_of_some _ (Heap.get?_push_of_some _ (Heap.get?_push_of_some _ (Heap.get?_push_size _ rfl))))
  have g1 : (z3H6 s.heap l1 l2 l3).get? s.heap.objs.size = some _ := Heap.get?_push_of_some _ (Heap.get?_push_of_some _ (Heap.get?_push_of_some _ (Heap.get?_push_of_some _ (Heap.get?_push_of_some _ (Heap.get?_push_size _ rfl)))))
  have old : ∀ c o, s.heap.get? c = some o → (z3H6 s.heap l1 l2 l3).get? c = some o := fun c o q => Heap.get?_push_of_some _ (Heap.get?_push_of_some _ (Heap.get?_push_of_some _ (Heap.get?_push_of_some _ (Heap.get?_push_of_some _ (Heap.get?_push_of_some _ q)))))
  show _ ∧ _
  rw [n3, n4, n5] at g6
  rw [n1, n2, n3] at g4
  rw [n4] at g5
  rw [n2] at g3
  rw [n1] at g2
  rw [n5]
  exact ⟨⟨_, g6, rfl⟩, h _ g6 g4 g5 ⟨_, g1, rfl, rfl⟩ ⟨_, g2, rfl, rfl⟩ ⟨_, g3, rfl, rfl⟩ old⟩
end
/-- the lists at a, b and c, of one length, item by item in new triples -/
def ItzT (K : PySem.W.Frag) (a b c : Addr) : It :=
  ⟨fun i H => ∃ (xs ys zs : List V) (x y z : V), SqL K H a xs ∧ SqL K H b ys ∧ SqL K H c zs ∧ xs[i]? = some x ∧ ys[i]? = some y ∧ zs[i]? = some z,
    fun i H v H' => ∃ T x y z, v = .ref T ∧ H T = none ∧ H' = upd H T (.tup [x, y, z]) ∧ (∀ xs, SqL K H a xs → xs[i]? = some x) ∧ (∀ ys, SqL K H b ys → ys[i]? = some y) ∧ ∀ zs, SqL K H c zs → zs[i]? = some z,
    fun i H => ∃ xs ys zs : List V, SqL K H a xs ∧ SqL K H b ys ∧ SqL K H c zs ∧ xs.length ≤ i ∧ ys.length ≤ i ∧ zs.length ≤ i⟩
theorem turn_zip3 {P : Program} {w : World} {K : PySem.W.Frag} {elts : List Expr} {kk : Nat} {tpos : Pos} {a b c I : Nat} (D : a < I ∧ b < I ∧ c < I) :
    Turn P w K (.Tuple elts kk tpos) (ItzT K a b c) [I + 5, I + 3, I + 4, I, I + 1, I + 2] (I + 5) (fun i h => ZipS h (I + 5) (I + 3) (I + 4) .none ∧ IsTrip h (I + 3) (.ref I) (.ref (I + 1)) (.ref (I + 2)) ∧ (∃ x y z, IsTrip h (I + 4) x y z) ∧ h.IsListIter I a i ∧ h.IsListIter (I + 1) b i ∧ h.IsListIter (I + 2) c i) where
  mem := by simp
  obj := fun i h st e hc => by
    obtain ⟨hz, hTI, ⟨x, y, z, hTO⟩, ⟨o1, e1, _, d1⟩, ⟨o2, e2, _, d2⟩, ⟨o3, e3, _, d3⟩⟩ := st
    simp only [List.mem_cons, List.not_mem_nil, or_false] at hc
    rcases hc with q | q | q | q | q | q <;> rw [q]
    · exact ⟨_, hz, fun v q => nomatch q⟩
    · exact ⟨_, hTI, fun v q => nomatch q⟩
    · exact ⟨_, hTO, fun v q => nomatch q⟩
    · exact ⟨o1, e1, fun v q => by rw [d1] at q; cases q⟩
    · exact ⟨o2, e2, fun v q => by rw [d2] at q; cases q⟩
    · exact ⟨o3, e3, fun v q => by rw [d3] at q; cases q⟩
  keep := fun i h h' st k => by
    obtain ⟨hz, hTI, ⟨x, y, z, hTO⟩, h1, h2, h3⟩ := st
    exact ⟨k (I + 5) (by simp) _ hz, k (I + 3) (by simp) _ hTI, ⟨x, y, z, k (I + 4) (by simp) _ hTO⟩, h1.at fun o q => k I (by simp) o q, h2.at fun o q => k (I + 1) (by simp) o q, h3.at fun o q => k (I + 2) (by simp) o q⟩
  item := by
    intro X hP hw hK hc i pins s σ H E J hf st hg
    subst hP hw hK
    obtain ⟨hz, hTI, ⟨x0, y0, z0, hTO⟩, h1, h2, h3⟩ := st
    obtain ⟨xs, ys, zs, x, y, z, hqx, hqy, hqz, hx, hy, hzz⟩ := hg
    obtain ⟨its, rv, p, _⟩ := J.list hqx
    obtain ⟨its2, rv2, p2, _⟩ := J.list hqy
    obtain ⟨its3, rv3, p3, _⟩ := J.list hqz
    obtain ⟨u, hu, ru⟩ := rv.get hx
    obtain ⟨u2, hu2, ru2⟩ := rv2.get hy
    obtain ⟨u3, hu3, ru3⟩ := rv3.get hzz
    have hzl : I + 5 < s.heap.objs.size := Heap.lt_size hz
    refine z3_next_item D hz hTI hTO h1 h2 h3 p.isList p2.isList p3.isList (x := u) (y := u2) (u := u3) (by simpa using hu) (by simpa using hu2) (by simpa using hu3) fun h' z' TO' h1' h2' h3' hT hsz hk => ?_
    refine ⟨_, rfl, zs_go (s := { s with heap := h' }) z' fun h'' z'' sb => ?_⟩
    have hT2 : h''.get? s.heap.objs.size = some { cls := .type "tuple", data := .seq #[u, u2, u3] } := (sb.2 _ (Nat.ne_of_gt hzl)).trans hT
    have new : ObjOk X.prog X.w (upd H s.heap.objs.size (.tup [x, y, z])) h'' s.heap.objs.size (.tup [x, y, z]) :=
      ⟨by show 3 ≤ sizeLine; decide, [u, u2, u3], .cons ru (.cons ru2 (.cons ru3 .nil)), ⟨_, hT2, rfl, _, rfl⟩⟩
    have I1 : Inv X pins σ (upd H s.heap.objs.size (.tup [x, y, z])) { s with heap := h'' } :=
      J.turnedNew (t' := s.toks) (ch := [I + 5, I + 3, I + 4, I, I + 1, I + 2]) (fun c o hb q => (sb.2 c (fun q' => hb (by simp [q']))).trans (hk c o (fun q' => hb (by simp [q'])) (fun q' => hb (by simp [q'])) (fun q' => hb (by simp [q'])) (fun q' => hb (by simp [q'])) (fun q' => hb (by simp [q'])) q)) hf (Nat.le_refl _) new
    refine ⟨.ref s.heap.objs.size, _, I1, rfl, ⟨_, x, y, z, rfl, J.hok.fresh (Nat.le_refl _), rfl, fun l hl => by rw [J.list_inj hl hqx]; exact hx, fun l hl => by rw [J.list_inj hl hqy]; exact hy, fun l hl => by rw [J.list_inj hl hqz]; exact hzz⟩, ⟨z'', ?_, ⟨u, u2, u3, ?_⟩, ?_, ?_, ?_⟩, fun c hcm => ?_⟩
    · exact (sb.2 _ (by show @Ne Nat _ _; omega)).trans (hk _ _ (by show @Ne Nat _ _; omega) (by show @Ne Nat _ _; omega) (by show @Ne Nat _ _; omega) (by show @Ne Nat _ _; omega) (by show @Ne Nat _ _; omega) hTI)
    · exact (sb.2 _ (by show @Ne Nat _ _; omega)).trans TO'
    · exact h1'.at fun o q => (sb.2 _ (by show @Ne Nat _ _; omega)).trans q
    · exact h2'.at fun o q => (sb.2 _ (by show @Ne Nat _ _; omega)).trans q
    · exact h3'.at fun o q => (sb.2 _ (by show @Ne Nat _ _; omega)).trans q
    · have hlt : c < s.heap.objs.size := by
        simp only [List.mem_cons, List.not_mem_nil, or_false] at hcm
        rcases hcm with q | q | q | q | q | q <;> rw [q]
        · exact hzl
        · exact Heap.lt_size hTI
        · exact Heap.lt_size hTO
        · obtain ⟨_, e1, _⟩ := h1; exact Heap.lt_size e1
        · obtain ⟨_, e2, _⟩ := h2; exact Heap.lt_size e2
        · obtain ⟨_, e3, _⟩ := h3; exact Heap.lt_size e3
      rw [upd_ne (Nat.ne_of_lt hlt)]
      exact (hf c hcm).1
  done := by
    intro X hP hw hK hc i pins s σ H E J hf st hg
    subst hP hw hK
    obtain ⟨hz, hTI, ⟨x0, y0, z0, hTO⟩, h1, h2, h3⟩ := st
    obtain ⟨xs, ys, zs, hqx, hqy, hqz, l1, l2, l3⟩ := hg
    obtain ⟨its, rv, p, _⟩ := J.list hqx
    obtain ⟨its2, rv2, p2, _⟩ := J.list hqy
    obtain ⟨its3, rv3, p3, _⟩ := J.list hqz
    have m1 := rv.length
    have m2 := rv2.length
    have m3 := rv3.length
    exact z3_next_end (J.ok.hd hc) D hz hTI hTO h1 h2 h3 p.isList p2.isList p3.isList (by simp; omega) (by simp; omega) (by simp; omega) fun h' hk => ⟨rfl, J.turnedL (t' := s.toks) (ch := [I + 5, I + 3, I + 4, I, I + 1, I + 2]) (fun c o hb q =>
      hk c o (fun q' => hb (by simp [q'])) (fun q' => hb (by simp [q'])) (fun q' => hb (by simp [q'])) (fun q' => hb (by simp [q'])) (fun q' => hb (by simp [q'])) q) hf⟩
  self := fun A i s Q E st h => zs_iter st.1 h
def iZip3 (K : PySem.W.Frag) (ta : TA) : TI := fun σ H R => ta σ H fun vs H1 => ∃ a b c xs ys zs, vs = [.ref a, .ref b, .ref c] ∧ SqL K H1 a xs ∧ SqL K H1 b ys ∧ SqL K H1 c zs ∧ R (ItzT K a b c) H1
theorem pi_zip3 {X : Cx} {e e2 e3 : Expr} {ta : TA} {p pos tpos cp kp : Pos} {elts : List Expr} {kk j : Nat} (hg : Gl X "zip") (hm : X.mg "zip" = none) (ha : PA X [e, e2, e3] ta)
    (he : backTo pos (starEach [e, e2, e3] X.env) = (false, eval e X.env) :: backTo pos (starEach [e2, e3] X.env) := by rfl) (hpl : (backTo pos (starEach [e, e2, e3] X.env)).any (·.1) = false := by rfl) :
    PI X (.Tuple elts kk tpos) (.Call (.Name "zip" p) [e, e2, e3] [⟨some "strict", .Constant (.bool true) j cp, kp⟩] pos) (iZip3 X.K ta) := by
  refine ⟨fun pins s σ H R I h => ?_⟩
  refine wpAny_Call_Name_kw (ld_blt I hg hm PyProof.Rows.boot_zip (callWith_tk hpl rfl ?_))
  rw [he]
  refine evalArgs_kwB rfl ?_
  rw [← he]
  refine thn (ha.run pos pins s σ H _ I h) fun us s1 ⟨vs, H1, I1, r1, q1⟩ => ?_
  refine kws_cons (Constant_bool (kws_nil ?_))
  obtain ⟨a, b, c, xs, ys, zs, ex, hqx, hqy, hqz, q⟩ := q1
  subst ex
  cases r1 with
  | cons r rr =>
    cases rr with
    | cons r' rr =>
      cases rr with
      | cons r'' rr =>
        cases rr
        cases r
        cases r'
        cases r''
        obtain ⟨its, rv, p1, _⟩ := I1.list hqx
        obtain ⟨its2, rv2, p2, _⟩ := I1.list hqy
        obtain ⟨its3, rv3, p3, _⟩ := I1.list hqz
        have la : a < s1.heap.objs.size := p1.lt
        have lb : b < s1.heap.objs.size := p2.lt
        have lc : c < s1.heap.objs.size := p3.lt
        refine call_zip3 p1.isList p2.isList p3.isList fun h' hz hTI hTO h1 h2 h3 hk => zs_iter hz ?_
        have I2 : Inv X pins σ H1 { s1 with heap := h' } := I1.kept (t' := s1.toks) hk
        refine ⟨s1.heap.objs.size + 5, [s1.heap.objs.size + 5, s1.heap.objs.size + 3, s1.heap.objs.size + 4, s1.heap.objs.size, s1.heap.objs.size + 1, s1.heap.objs.size + 2], _, _, H1, rfl, I2, turn_zip3 (I := s1.heap.objs.size) ⟨la, lb, lc⟩, ⟨hz, hTI, ⟨_, _, _, hTO⟩, h1, h2, h3⟩, fun c hcm => ?_, q⟩
        have hle : s1.heap.objs.size ≤ c := by
          simp only [List.mem_cons, List.not_mem_nil, or_false] at hcm
          rcases hcm with z | z | z | z | z | z <;> rw [z] <;> omega
        exact I1.fpOk hle (I1.hok.fresh hle)
section
variable {X : Cx} {F : Fr} {s : S} {a b c : Expr} {p pos tpos cp kp : Pos} {elts : List Expr} {kk j : Nat} {Θ : Nat → (Nat → E → Prop) → S → Prop}
/-- three whole frozen lists of one length, in triples -/
def itT (ds es fs : List D) : Nat → E → Prop := fun i e => ∃ d d2 d3, ds[i]? = some d ∧ es[i]? = some d2 ∧ fs[i]? = some d3 ∧ e = .d (.nd .tup [d, d2, d3])
theorem ji_zip3 (g : GlB X "zip") (h : JE X F a s fun e1 s1 => JE X F b s1 fun e2 s2 => JE X F c s2 fun e3 s3 => ∃ ds es fs, e1 = .d (.nd .lst ds) ∧ e2 = .d (.nd .lst es) ∧ e3 = .d (.nd .lst fs) ∧ ds.length = es.length ∧ ds.length = fs.length ∧ Θ ds.length (itT ds es fs) s3)
    (ns : NoStar a := by intro _ _; rfl) (ns2 : NoStar b := by intro _ _; rfl) (ns3 : NoStar c := by intro _ _; rfl) : JI X F (.Tuple elts kk tpos) (.Call (.Name "zip" p) [a, b, c] [⟨some "strict", .Constant (.bool true) j cp, kp⟩] pos) s Θ := fun as G H σ R c k => by
  refine PI.sem (pi_zip3 g.gl g.mg (pa_cons (pe_sem X a) (pa_cons (pe_sem X b) (pa_cons (pe_sem X _) pa_nil (ns3 _ _)) (ns2 _ _)) (ns _ _)) (by rw [ns, ns2, ns3]; rfl) (by rw [ns, ns2, ns3]; rfl)) ?_
  refine h as G H σ _ c fun v1 as1 G1 H1 e1 s1 c1 x1 ve1 h1 => h1 as1 G1 H1 σ _ c1 fun v2 as2 G2 H2 e2 s2 c2 x2 ve2 h2 => h2 as2 G2 H2 σ _ c2 fun v3 as3 G3 H3 e3 s3 c3 x3 ve3 ⟨ds, es, fs, q1, q2, q3, hl, hl3, q⟩ => ?_
  subst q1 q2 q3
  cases ve1 with
  | @nd l1 vs _ _ n r =>
    cases ve2 with
    | @nd l2 ws _ _ n2 r2 =>
      cases ve3 with
      | @nd l3 us _ _ n3 r3 =>
        have m1 : SqL X.K G3 l1 vs := (show NodeAt X.K G1 l1 vs .lst from n).mono (x2.sub.trans x3.sub)
        have m2 : SqL X.K G3 l2 ws := (show NodeAt X.K G2 l2 ws .lst from n2).mono x3.sub
        have m3 : SqL X.K G3 l3 us := n3
        have r1' : Reps X.K G3 vs ds := r.mono (x2.sub.trans x3.sub)
        have r2' : Reps X.K G3 ws es := r2.mono x3.sub
        have at1 : ∀ {as' : List Addr} {G' H' : Hp} {σ' : L2.St} {s' : S}, Cz X F as' G' H' σ' s' → Same G3 G' → SqL X.K H' l1 vs := fun c' x => ((show NodeAt X.K G3 l1 vs .lst from m1).mono x).mono c'.sub
        have at2 : ∀ {as' : List Addr} {G' H' : Hp} {σ' : L2.St} {s' : S}, Cz X F as' G' H' σ' s' → Same G3 G' → SqL X.K H' l2 ws := fun c' x => ((show NodeAt X.K G3 l2 ws .lst from m2).mono x).mono c'.sub
        have at3 : ∀ {as' : List Addr} {G' H' : Hp} {σ' : L2.St} {s' : S}, Cz X F as' G' H' σ' s' → Same G3 G' → SqL X.K H' l3 us := fun c' x => ((show NodeAt X.K G3 l3 us .lst from m3).mono x).mono c'.sub
        have el1 : vs.length = ds.length := r1'.length
        have el2 : ws.length = es.length := r2'.length
        have el3 : us.length = fs.length := r3.length
        refine ⟨l1, l2, l3, vs, ws, us, rfl, (show NodeAt X.K G3 l1 vs .lst from m1).mono c3.sub, (show NodeAt X.K G3 l2 ws .lst from m2).mono c3.sub, (show NodeAt X.K G3 l3 us .lst from m3).mono c3.sub, k (ItzT X.K l1 l2 l3) as3 G3 H3 s3 ds.length (itT ds es fs) c3 (x1.trans (x2.trans x3)) ?_ q⟩
        refine ⟨fun as' G' H' σ' s' c' x => ⟨vs, ws, us, at1 c' x, at2 c' x, at3 c' x, by omega, by omega, by omega⟩, fun i as' G' H' σ' s' hi c' x => ⟨vs, ws, us, vs[i]'(by omega), ws[i]'(by omega), us[i]'(by omega), at1 c' x, at2 c' x, at3 c' x, List.getElem?_eq_getElem _, List.getElem?_eq_getElem _, List.getElem?_eq_getElem _⟩,
          fun i as' G' H' σ' s' y H3 hi c' x q => ?_, fun i as' G' H' σ' s' y H3 hi c' x q => ?_⟩
        · obtain ⟨T, u, u2, u3, rfl, hT, rfl, g1, g2, g3⟩ := q
          obtain ⟨d, e1, e2⟩ := r1'.get' (g1 vs (at1 c' x))
          obtain ⟨d2, e3, e4⟩ := r2'.get' (g2 ws (at2 c' x))
          obtain ⟨d3, e5, e6⟩ := r3.get' (g3 us (at3 c' x))
          have sg : Same G' (upd G' T (.tup [u, u2, u3])) := same_new (c'.gnone hT)
          refine ⟨upd G' T (.tup [u, u2, u3]), .d (.nd .tup [d, d2, d3]), c'.addG hT, ⟨sg, fun b0 hb hg => ?_⟩, ?_, d, d2, d3, e1, e3, e5, rfl⟩
          · rw [upd_ne (fun z => hb (by rw [z]; exact hT))]; exact hg
          · exact .nd (k := .tup) (SqT.of upd_same) (.cons ((e2.mono x).mono sg) (.cons ((e4.mono x).mono sg) (.cons ((e6.mono x).mono sg) .nil)))
        · obtain ⟨T, u, u2, u3, rfl, hT, rfl, g1, g2, g3⟩ := q
          exact same_new hT
end
end DL
namespace DL
open PySem PySem.Spec PyProof.Rows L2
section
variable {X : Cx} {F : Fr} {P : Po} {G H : Hp} {σ : L2.St}
/-- the last cell but one dies: the last one takes its place -/
structure Mv (n : Nat) (p q : S) (cs : List Cell) (kd : Kd) (ds : List D) : Prop where
  ce : ∃ c0, p.ce = cs ++ [c0, .nd kd (ds.map .d)]
  cq : q.ce = cs ++ [.nd kd (ds.map .d)]
  hn : cs.length = n
  len : q.sl.length = p.sl.length
  ar : q.ar = p.ar
  fit : p.ar ≤ n
  old : cs.all (Cell.ltB n) = true
  sl : ∀ (i : Nat) (e : E), q.sl[i]? = some (some e) → (e.lt n = true ∧ p.sl[i]? = some (some e)) ∨ (e = .r n ∧ p.sl[i]? = some (some (.r (n + 1))))
theorem Cz.mv {as : List Addr} {s s' : S} {n : Nat} {cs : List Cell} {kd : Kd} {ds : List D} (c : Cz X F as G H σ s) (w : Mv n s s' cs kd ds) : ∃ as', Cz X F as' G H σ s' := by
  obtain ⟨c0, hce⟩ := w.ce
  have hn := w.hn
  have hl : as.length = n + 2 := by rw [c.len, hce, List.length_append, hn]; rfl
  obtain ⟨l, x, y, rfl⟩ : ∃ l x y, as = l ++ [x, y] := by
    refine ⟨as.take n, as[n]'(by omega), as[n + 1]'(by omega), ?_⟩
    apply List.ext_getElem?
    intro i
    by_cases h : i < n
    · rw [List.getElem?_append_left (by rw [List.length_take]; omega), List.getElem?_take_of_lt h]
    · rw [List.getElem?_append_right (by rw [List.length_take]; omega), List.length_take, Nat.min_eq_left (by omega)]
      by_cases h2 : i = n
      · subst h2; rw [Nat.sub_self, List.getElem?_eq_getElem (by omega)]; rfl
      · by_cases h3 : i = n + 1
        · subst h3
          rw [show n + 1 - n = 1 by omega, List.getElem?_eq_getElem (by omega)]; rfl
        · rw [List.getElem?_eq_none (by omega), List.getElem?_eq_none (by simp; omega)]
  have ll : l.length = n := by rw [List.length_append] at hl; simp at hl; omega
  have g1 : ∀ {k : Nat} {a : Addr}, k < n → (l ++ [x, y])[k]? = some a → (l ++ [y])[k]? = some a := fun {k a} h q => by
    rw [List.getElem?_append_left (by omega)] at q ⊢; exact q
  have g2 : (l ++ [x, y])[n + 1]? = some y := by rw [List.getElem?_append_right (by omega), ll, show n + 1 - n = 1 by omega]; rfl
  have g3 : (l ++ [y])[n]? = some y := by rw [List.getElem?_append_right (by omega), ll, Nat.sub_self]; rfl
  have g4 : ∀ {k : Nat} {a : Addr}, (l ++ [y])[k]? = some a → (k < n ∧ (l ++ [x, y])[k]? = some a) ∨ (k = n ∧ a = y) := fun {k a} q => by
    by_cases h : k < n
    · refine .inl ⟨h, ?_⟩
      rw [List.getElem?_append_left (by omega)] at q ⊢; exact q
    · have := (List.getElem?_eq_some_iff.mp q).1
      rw [List.length_append] at this
      have hk : k = n := by simp at this; omega
      subst hk
      rw [g3] at q
      exact .inr ⟨rfl, (Option.some.inj q).symm⟩
  have c1 : ∀ {k : Nat} {z : Cell}, k < n → s'.ce[k]? = some z → s.ce[k]? = some z := fun {k z} h q => by
    rw [w.cq, List.getElem?_append_left (by omega)] at q
    rw [hce, List.getElem?_append_left (by omega)]; exact q
  have c2 : s.ce[n + 1]? = some (.nd kd (ds.map .d)) := by rw [hce, List.getElem?_append_right (by omega), hn, show n + 1 - n = 1 by omega]; rfl
  have c3 : s'.ce[n]? = some (.nd kd (ds.map .d)) := by rw [w.cq, List.getElem?_append_right (by omega), hn, Nat.sub_self]; rfl
  have sub : ∀ a ∈ l ++ [y], a ∈ l ++ [x, y] := fun a ha => by
    rcases List.mem_append.mp ha with h | h
    · exact List.mem_append_left _ h
    · exact List.mem_append_right _ (by simp at h; simp [h])
  have ve : ∀ {v : V} {e : E}, VE X.K G (l ++ [x, y]) v e → e.lt n = true → VE X.K G (l ++ [y]) v e := fun {v e} q h => by
    cases e with
    | d x => exact q
    | r k =>
      obtain ⟨a, q1, q2⟩ := q
      exact ⟨a, g1 (by simpa [E.lt] using h) q1, q2⟩
  have ves : ∀ {vs : List V} {es : List E}, VEs X.K G (l ++ [x, y]) vs es → (∀ e ∈ es, E.lt n e = true) → VEs X.K G (l ++ [y]) vs es := by
    intro vs es h
    induction h with
    | nil => intro _; exact .nil
    | cons h _ ih => intro l; exact .cons (ve h (l _ List.mem_cons_self)) (ih fun e he => l e (List.mem_cons_of_mem _ he))
  refine ⟨l ++ [y], c.sub, c.base, c.new, c.frame, ?_, ?_, ?_, ?_, fun a ha => c.fresh a (sub a ha), fun a ha => c.there a (sub a ha), ?_, ?_, ?_, ?_⟩
  · rw [w.cq, List.length_append, List.length_append, ll, hn]; rfl
  · obtain ⟨t, ht⟩ := c.pre
    have hA : F.A0.length ≤ n := by rw [c.har]; exact w.fit
    have : F.A0 <+: l := by
      refine List.prefix_of_prefix_length_le (l₃ := l ++ [x, y]) ⟨t, ht⟩ ⟨_, rfl⟩ (by omega)
    exact this.trans ⟨_, rfl⟩
  · exact c.nd.sublist (List.Sublist.append_left (List.sublist_cons_self x [y]) l)
  · intro k a kd' es q1 q2
    rcases g4 q1 with ⟨h, q⟩ | ⟨rfl, rfl⟩
    · exact c.own k a kd' es q (c1 h q2)
    · exact c.own _ a kd (ds.map .d) g2 c2
  · intro k kd' es q
    by_cases h : k < n
    · obtain ⟨a, vs, q1, q2, q3⟩ := c.cells k kd' es (c1 h q)
      refine ⟨a, vs, g1 h q1, q2, ves q3 fun e he => ?_⟩
      have hm : Cell.nd kd' es ∈ cs := by
        rw [w.cq, List.getElem?_append_left (by omega)] at q
        exact List.mem_of_getElem? q
      have := List.all_eq_true.mp w.old _ hm
      exact List.all_eq_true.mp this e he
    · have hk : k = n := by
        have := (List.getElem?_eq_some_iff.mp q).1
        rw [w.cq, List.length_append] at this
        simp at this; omega
      subst hk
      rw [c3] at q
      cases q
      obtain ⟨a, vs, q1, q2, q3⟩ := c.cells _ kd _ c2
      rw [g2] at q1
      cases q1
      exact ⟨y, vs, g3, q2, ves q3 fun e he => by
        obtain ⟨d, _, rfl⟩ := List.mem_map.mp he
        rfl⟩
  · intro i e he
    rcases w.sl i e he with ⟨h1, h2⟩ | ⟨rfl, h2⟩
    · obtain ⟨v, q1, q2⟩ := c.slots i e h2
      exact ⟨v, q1, ve q2 h1⟩
    · obtain ⟨v, q1, a, q2, q3⟩ := c.slots i _ h2
      rw [g2] at q2
      cases q2
      exact ⟨v, q1, y, g3, q3⟩
  · rw [w.len]; exact c.slen
  · rw [w.ar]; exact c.har
theorem jss_mv {sts : List Stmt} {s s' : S} {n : Nat} {cs : List Cell} {kd : Kd} {ds : List D} (w : Mv n s s' cs kd ds) (h : JSs X F sts s' P) : JSs X F sts s P := fun as G H σ D c k => by
  obtain ⟨as', c'⟩ := c.mv w
  exact h as' G H σ D c' (k.exs (Same.refl _))
end
end DL
namespace DL
open PySem PySem.Spec PyProof.Rows L2
variable {X : Cx} {F : Fr} {s : S}
/-! ### comprehensions that walk an owned list -/
section
variable {elt iter : Expr} {scope : Scope} {own : List (Str × Nat)} {pos p : Pos} {x : Str} {j B : Nat} {Φ : E → S → Prop}
/-- walks the owned cell k, whose items are data -/
def LcO (X : Cx) (F : Fr) (iter elt : Expr) (scope : Scope) (vs : List Nat) (j : Nat) (s : S) (Θ : List D → S → Prop) : Prop :=
  JE X F iter s fun e s1 => ∃ (k : Nat) (ds : List D), e = .r k ∧ nth s1.ce k = some (.nd .lst (ds.map .d)) ∧ ds.length ≤ 16000000 ∧ ∃ In : Nat → List D → S → Prop, In 0 [] (s1.wipe vs) ∧
    (∀ i acc t, In i acc t → t.wipe vs = t ∧ t.ce.length = s1.ce.length ∧ nth t.ce k = some (.nd .lst (ds.map .d))) ∧
    (∀ i v acc t, ds[i]? = some v → acc.length = i → In i acc t → ∀ Y, IsBlk X scope Y → JE Y F elt (t.blkI acc j (.d v)) fun y s3 => ∃ d t', y = .d d ∧ s3 = t'.blkI acc j (.d v) ∧ In (i + 1) (acc ++ [d]) t') ∧
    ∀ acc t, acc.length = ds.length → In ds.length acc t → Θ acc ⟨s1.sl, t.ce, s1.ar⟩
theorem blk_cell {t : S} {acc : List D} {v : E} {k : Nat} {c : Cell} (h : nth t.ce k = some c) : nth (t.push .lst (acc.map .d)).ce k = some c := by
  rw [nth_eq] at h ⊢
  show (t.ce ++ [_])[k]? = _
  rw [List.getElem?_append_left (List.getElem?_eq_some_iff.mp h).1]
  exact h
theorem lcO_read {Θ : List D → S → Prop} (hj : j ∈ own.map (·.2)) (h : LcO X F iter elt scope (own.map (·.2)) j s Θ) (hΘ : ∀ acc t, Θ acc t → Φ (.r t.ce.length) (t.push .lst (acc.map .d))) :
    ∀ as G H σ (Q : VK), Cz X F as G H σ s → (∀ v as' G' H' e' s', Cz X F as' G' H' σ s' → Ext as as' G G' → VE X.K G' as' v e' → Φ e' s' → Q v H') → tLc (semI X (.Name x p) iter) (gName j) (ttB X scope []) (teB X scope elt) (own.map (·.2)) σ H Q := by
  refine fun as G H σ Q c kk => PI.sem (X := X) (tg := .Name x p) (iter := iter) (pi_list (pe_sem X iter)) (h as G H σ _ c fun v as1 G1 H1 e1 s1 c1 x1 ve ⟨k, ds, e2, hk0, hn, In, h0, hI, ht, hd⟩ => ?_)
  subst e2
  obtain ⟨a, hka, rfl⟩ := ve
  have at_ : ∀ {as' : List Addr} {G' H' : Hp} {σ' : L2.St} {s' : S}, Cz X F as' G' H' σ' s' → as1 <+: as' → nth s'.ce k = some (.nd .lst (ds.map .d)) → ∃ vs, SqL X.K H' a vs ∧ Reps X.K G' vs ds := fun {as' G' H' σ' s'} c' pr hk => by
    rw [nth_eq] at hk
    obtain ⟨b, vs, y1, y2, y3⟩ := c'.cells k _ _ hk
    rw [pre_get pr hka] at y1
    cases y1
    exact ⟨vs, SqL.of y2, y3.reps⟩
  obtain ⟨vs0, q0, r0⟩ := at_ c1 (List.prefix_refl _) hk0
  refine ⟨a, rfl, ⟨vs0, q0⟩, ?_⟩
  intro D hD
  have c1' := (c1.wipe (own.map (·.2))).addO (kd := .lst) (o := .lst []) (vs := []) (es := []) hD upd_same .nil
  have hk : s1.ce.length = as1.length := c1.len.symm
  refine ⟨fun i m H' => m = ds.length - i ∧ i ≤ ds.length ∧ ∃ as' G' t acc, acc.length = i ∧ Cz X F as' G' H' (wipe σ (own.map (·.2))) (t.push .lst (acc.map .d)) ∧ as1 ++ [D] <+: as' ∧ Same G1 G' ∧ In i acc t, ⟨ds.length, by simp, Nat.zero_le _, _, _, _, [], rfl, c1', List.prefix_refl _, Same.refl _, h0⟩, ?_⟩
  rintro i m H' ⟨rfl, hi, as', G', t, acc, hal, c', pr, sg, q⟩
  obtain ⟨i1, i2, i3⟩ := hI i acc t q
  have pr1 : as1 <+: as' := pre_snoc.trans pr
  obtain ⟨vs, q1, r1⟩ := at_ c' pr1 (blk_cell (v := .d .non) i3)
  have prD : as'[s1.ce.length]? = some D := pre_get pr (by rw [hk, List.getElem?_append_right (Nat.le_refl _)]; simp)
  by_cases hlt : i < ds.length
  · refine .inr ⟨⟨vs, vs[i]'(by rw [r1.length]; exact hlt), q1, List.getElem?_eq_getElem _⟩, fun H2 => ∃ as' G' t acc, acc.length = i + 1 ∧ Cz X F as' G' H2 (wipe σ (own.map (·.2))) (t.push .lst (acc.map .d)) ∧ as1 ++ [D] <+: as' ∧ Same G1 G' ∧ In (i + 1) acc t, fun H2 ⟨as2, G2, s2, acc2, l2, c2, p2, g2, q2⟩ => ⟨ds.length - (i + 1), by omega, rfl, hlt, as2, G2, s2, acc2, l2, c2, p2, g2, q2⟩, fun v H2 y => ?_⟩
    obtain ⟨rfl, y⟩ := y
    obtain ⟨d, hd1, hd2⟩ := r1.get' (y vs q1)
    have c3 := c'.set (i := j) (show VE X.K G' as' v (.d d) from hd2)
    have ws : wipe ((wipe σ (own.map (·.2))).set j (some v)) (own.map (·.2)) = wipe σ (own.map (·.2)) := wipe_same (by rw [List.length_set, wipe_length]) fun l hl => by
      rw [List.getElem?_set_ne (fun z => hl (by rw [← z]; exact hj)), wipe_out' hl]
    refine ⟨ws, fun Y hY pins st I => jts_run (Ψ := fun b s2 => b = true ∧ s2 = (t.push .lst (acc.map .d)).set j (.d d)) (show JTs Y F [] _ _ from ⟨rfl, rfl⟩) (cz_blk hY c3) (fun b as4 G4 H4 s4 c4 x4 q4 => ?_) pins st I⟩
    obtain ⟨rfl, rfl⟩ := q4
    simp only [if_true]
    refine fun Y2 hY2 => ht i d acc t hd1 hal q Y2 hY2 as4 G4 H4 _ _ (cz_blk hY2 (cz_ublk hY c4)) fun y as5 G5 H5 y' s5 c5 x5 ve5 ⟨d5, t5, w1, w2, w3⟩ => ?_
    subst w1 w2
    obtain ⟨j1, j2, j3⟩ := hI (i + 1) _ t5 w3
    have c5 := cz_ublk hY2 c5
    rw [hY2.K] at ve5
    have p5 : as1 ++ [D] <+: as5 := (pr.trans x4.pre).trans x5.pre
    have prD5 : as5[s1.ce.length]? = some D := pre_get p5 (by rw [hk, List.getElem?_append_right (Nat.le_refl _)]; simp)
    have w1 : (t5.blkI acc j (.d d)).ce[s1.ce.length]? = some (.nd .lst (acc.map .d)) := by
      show (t5.ce ++ [_])[s1.ce.length]? = _
      rw [← j2, List.getElem?_append_right (Nat.le_refl _)]; simp
    obtain ⟨b, ws5, y1, y2, y3⟩ := c5.cells _ _ _ w1
    rw [prD5] at y1
    cases y1
    have y2' : H5 D = some (.lst ws5) := y2
    have hl := Paired.length y3
    refine ⟨ws5, y2', by rw [hl, List.length_map, sizeLine_eq]; omega, ?_⟩
    have c6 := (c5.put (kd := .lst) (es := acc.map .d ++ [.d d5]) (o := .lst (ws5 ++ [y])) w1 prD5 upd_same (y3.snoc ve5)).wipe (own.map (·.2))
    rw [ws] at c6
    have e6 : ((t5.blkI acc j (.d d)).put s1.ce.length .lst (acc.map .d ++ [.d d5])).wipe (own.map (·.2)) = t5.push .lst ((acc ++ [d5]).map .d) := by
      have hput : ((t5.push .lst (acc.map .d)).set j (.d d)).put s1.ce.length .lst (acc.map .d ++ [.d d5]) = (t5.push .lst (acc.map .d ++ [.d d5])).set j (.d d) := by
        show (⟨_, setN (t5.ce ++ [Cell.nd .lst _]) s1.ce.length _, _⟩ : S) = ⟨_, t5.ce ++ [_], _⟩
        rw [setN_eq, ← j2, List.set_append_right _ _ (Nat.le_refl _)]
        simp
        exact ⟨rfl, rfl⟩
      show (((t5.push .lst (acc.map .d)).set j (.d d)).put s1.ce.length .lst (acc.map .d ++ [.d d5])).wipe _ = _
      rw [hput, set_wipe hj]
      have e7 : wipeN t5.sl (own.map (·.2)) = t5.sl := congrArg S.sl j1
      show (⟨wipeN t5.sl _, _, _⟩ : S) = ⟨t5.sl, _, _⟩
      rw [e7, List.map_append]
      rfl
    rw [e6] at c6
    exact ⟨as5, G5, t5, acc ++ [d5], by simp [hal], c6, p5, (sg.trans x4.sub).trans x5.sub, w3⟩
  · have e : i = ds.length := by omega
    subst e
    refine .inl ⟨⟨vs, q1, by rw [r1.length]; exact Nat.le_refl _⟩, ?_⟩
    have x : Ext as1 as' G1 G' := ⟨pr1, sg⟩
    have z := hΘ _ _ (hd acc t hal q)
    have e8 : (⟨s1.sl, t.ce, s1.ar⟩ : S).push .lst (acc.map .d) = ⟨s1.sl, (t.push .lst (acc.map .d)).ce, s1.ar⟩ := rfl
    rw [e8] at z
    refine kk _ as' G' H' (.r t.ce.length) _ (c1.back c' x) (x1.trans x) ⟨D, ?_, rfl⟩ z
    show as'[t.ce.length]? = some D
    rw [i2]; exact prD
/-- [..] over an owned list, owned -/
theorem je_lcO (bx : Bx X B) (ok : BlkOk X.N X.env.scope scope own) (hj : j ∈ own.map (·.2)) (hn : ∀ Y, IsBlk X scope Y → NmW Y j x)
    (h : LcO X F iter elt scope (own.map (·.2)) j s fun ds t => Φ (.r t.ce.length) (t.push .lst (ds.map .d)))
    (hs : ∀ x, foldedSetIterable iter X.env x = pure x := by intro _; rfl) : JE X F (.ListComp elt [⟨.Name x p, iter, [], 0⟩] scope pos) s Φ :=
  je_of (pe_lc bx.calm bx.nd (pi_sem X _ iter) ok (pg_B hn) pts_B pe_B hs) (lcO_read hj h fun _ _ z => z)
/-- name = [..] on one line, owned -/
theorem js_setLcO {i : Nat} {y : Str} {py spos : Pos} {P : Po} (bx : Bx X B) (ny : NmW X i y) (ly : X.env.scope.names.lookup y = some .local) (hsw : swapsWith (.ListComp elt [⟨.Name x p, iter, [], 0⟩] scope pos) (some (.Name y py)) spos.line X.env = pure true)
    (ok : BlkOk X.N X.env.scope scope own) (hj : j ∈ own.map (·.2)) (hn : ∀ Y, IsBlk X scope Y → NmW Y j x)
    (h : LcO X F iter elt scope (own.map (·.2)) j s fun ds t => P.nx ((t.push .lst (ds.map .d)).set i (.r t.ce.length)))
    (hs : ∀ x, foldedSetIterable iter X.env x = pure x := by intro _; rfl) : JS X F (.Assign [.Name y py] (.ListComp elt [⟨.Name x p, iter, [], 0⟩] scope pos) spos) s P := fun as G H σ D c k =>
  PS.sem (ps_setLc bx.calm bx.nd ny.nm ly hsw (pi_sem X _ iter) ok (pg_B hn) pts_B pe_B hs) (lcO_read (Φ := fun e1 s1 => P.nx (s1.set i e1)) hj h (fun _ _ z => z) as G H σ _ c fun v as1 G1 H1 e1 s1 c1 x1 ve q => k.nx as1 G1 H1 _ _ (c1.set ve) x1.sub q)
end
end DL
namespace W
open PySem PySem.Spec PyProof.Rows L2 DL
def top (i : Nat) : Stmt := PySem.Challenge.pw_networth_k05_papers_of_programs_judged.main.body.getD i (.Pass ⟨0, 0, 0, 0⟩)
abbrev s_ratio : Stmt := top 3
def N_ratio : List Str := ["p", "q", "shared"]
theorem sc_ratio : FnScope N_ratio ["p", "q"] (defScope s_ratio) := ⟨rfl, rfl, rfl, by decide +kernel, rfl, by decide +kernel, by decide +kernel⟩
abbrev s_added : Stmt := top 4
def N_added : List Str := ["one", "other"]
theorem sc_added : FnScope N_added ["one", "other"] (defScope s_added) := ⟨rfl, rfl, rfl, by decide +kernel, rfl, by decide +kernel, by decide +kernel⟩
abbrev s_times : Stmt := top 5
def N_times : List Str := ["one", "other"]
theorem sc_times : FnScope N_times ["one", "other"] (defScope s_times) := ⟨rfl, rfl, rfl, by decide +kernel, rfl, by decide +kernel, by decide +kernel⟩
abbrev s_sign : Stmt := top 6
def N_sign : List Str := ["one"]
theorem sc_sign : FnScope N_sign ["one"] (defScope s_sign) := ⟨rfl, rfl, rfl, by decide +kernel, rfl, by decide +kernel, by decide +kernel⟩
abbrev s_below : Stmt := top 7
def N_below : List Str := ["one", "other"]
theorem sc_below : FnScope N_below ["one", "other"] (defScope s_below) := ⟨rfl, rfl, rfl, by decide +kernel, rfl, by decide +kernel, by decide +kernel⟩
abbrev s_dot : Stmt := top 8
def N_dot : List Str := ["row", "other", "found", "one", "two"]
theorem sc_dot : FnScope N_dot ["row", "other"] (defScope s_dot) := ⟨rfl, rfl, rfl, by decide +kernel, rfl, by decide +kernel, by decide +kernel⟩
abbrev s_combined : Stmt := top 10
def N_combined : List Str := ["rows", "factors", "count", "found", "row", "factor", "column", "one", "two"]
theorem sc_combined : FnScope N_combined ["rows", "factors", "count"] (defScope s_combined) := ⟨rfl, rfl, rfl, by decide +kernel, rfl, by decide +kernel, by decide +kernel⟩
abbrev s_is_lawful : Stmt := top 11
def N_is_lawful : List Str := ["rows", "free", "x", "flag", "number", "coefficients", "sense", "right", "value"]
theorem sc_is_lawful : FnScope N_is_lawful ["rows", "free", "x"] (defScope s_is_lawful) := ⟨rfl, rfl, rfl, by decide +kernel, rfl, by decide +kernel, by decide +kernel⟩
abbrev s_are_factors : Stmt := top 12
def N_are_factors : List Str := ["rows", "y", "row", "number"]
theorem sc_are_factors : FnScope N_are_factors ["rows", "y"] (defScope s_are_factors) := ⟨rfl, rfl, rfl, by decide +kernel, rfl, by decide +kernel, by decide +kernel⟩
abbrev s_holds_down : Stmt := top 13
def N_holds_down : List Str := ["goal", "rows", "free", "y", "found", "flag", "number", "due", "row"]
theorem sc_holds_down : FnScope N_holds_down ["goal", "rows", "free", "y"] (defScope s_holds_down) := ⟨rfl, rfl, rfl, by decide +kernel, rfl, by decide +kernel, by decide +kernel⟩
abbrev s_shows_best : Stmt := top 14
def N_shows_best : List Str := ["goal", "rows", "free", "x", "y", "row"]
theorem sc_shows_best : FnScope N_shows_best ["goal", "rows", "free", "x", "y"] (defScope s_shows_best) := ⟨rfl, rfl, rfl, by decide +kernel, rfl, by decide +kernel, by decide +kernel⟩
abbrev s_shows_none : Stmt := top 15
def N_shows_none : List Str := ["goal", "rows", "free", "y", "zeros", "number", "row"]
theorem sc_shows_none : FnScope N_shows_none ["goal", "rows", "free", "y"] (defScope s_shows_none) := ⟨rfl, rfl, rfl, by decide +kernel, rfl, by decide +kernel, by decide +kernel⟩
abbrev s_shows_endless : Stmt := top 16
def N_shows_endless : List Str := ["goal", "rows", "free", "x", "r", "flag", "number", "coefficients", "sense", "right", "value"]
theorem sc_shows_endless : FnScope N_shows_endless ["goal", "rows", "free", "x", "r"] (defScope s_shows_endless) := ⟨rfl, rfl, rfl, by decide +kernel, rfl, by decide +kernel, by decide +kernel⟩
abbrev s_law_mixed : Stmt := top 18
def N_law_mixed : List Str := ["number", "place", "first", "second", "third"]
theorem sc_law_mixed : FnScope N_law_mixed ["number", "place"] (defScope s_law_mixed) := ⟨rfl, rfl, rfl, by decide +kernel, rfl, by decide +kernel, by decide +kernel⟩
abbrev s_law_rest : Stmt := top 19
def N_law_rest : List Str := ["script", "place", "fills", "number"]
theorem sc_law_rest : FnScope N_law_rest ["script", "place", "fills"] (defScope s_law_rest) := ⟨rfl, rfl, rfl, by decide +kernel, rfl, by decide +kernel, by decide +kernel⟩
abbrev s_law_pool : Stmt := top 20
def N_law_pool : List Str := ["script"]
theorem sc_law_pool : FnScope N_law_pool ["script"] (defScope s_law_pool) := ⟨rfl, rfl, rfl, by decide +kernel, rfl, by decide +kernel, by decide +kernel⟩
abbrev s_law_next : Stmt := top 21
def N_law_next : List Str := ["pool"]
theorem sc_law_next : FnScope N_law_next ["pool"] (defScope s_law_next) := ⟨rfl, rfl, rfl, by decide +kernel, rfl, by decide +kernel, by decide +kernel⟩
abbrev s_law_draw : Stmt := top 22
def N_law_draw : List Str := ["pool", "limit", "value"]
theorem sc_law_draw : FnScope N_law_draw ["pool", "limit"] (defScope s_law_draw) := ⟨rfl, rfl, rfl, by decide +kernel, rfl, by decide +kernel, by decide +kernel⟩
abbrev s_law_pick : Stmt := top 23
def N_law_pick : List Str := ["pool", "options"]
theorem sc_law_pick : FnScope N_law_pick ["pool", "options"] (defScope s_law_pick) := ⟨rfl, rfl, rfl, by decide +kernel, rfl, by decide +kernel, by decide +kernel⟩
abbrev s_law_same : Stmt := top 24
def N_law_same : List Str := ["answer", "due", "key", "k"]
theorem sc_law_same : FnScope N_law_same ["answer", "due"] (defScope s_law_same) := ⟨rfl, rfl, rfl, by decide +kernel, rfl, by decide +kernel, by decide +kernel⟩
abbrev s_law_gcd : Stmt := top 25
def N_law_gcd : List Str := ["one", "other", "k"]
theorem sc_law_gcd : FnScope N_law_gcd ["one", "other"] (defScope s_law_gcd) := ⟨rfl, rfl, rfl, by decide +kernel, rfl, by decide +kernel, by decide +kernel⟩
abbrev s_law_ratio : Stmt := top 26
def N_law_ratio : List Str := ["p", "q", "shared"]
theorem sc_law_ratio : FnScope N_law_ratio ["p", "q"] (defScope s_law_ratio) := ⟨rfl, rfl, rfl, by decide +kernel, rfl, by decide +kernel, by decide +kernel⟩
abbrev s_law_add : Stmt := top 27
def N_law_add : List Str := ["one", "other"]
theorem sc_law_add : FnScope N_law_add ["one", "other"] (defScope s_law_add) := ⟨rfl, rfl, rfl, by decide +kernel, rfl, by decide +kernel, by decide +kernel⟩
abbrev s_law_sub : Stmt := top 28
def N_law_sub : List Str := ["one", "other"]
theorem sc_law_sub : FnScope N_law_sub ["one", "other"] (defScope s_law_sub) := ⟨rfl, rfl, rfl, by decide +kernel, rfl, by decide +kernel, by decide +kernel⟩
abbrev s_law_mul : Stmt := top 29
def N_law_mul : List Str := ["one", "other"]
theorem sc_law_mul : FnScope N_law_mul ["one", "other"] (defScope s_law_mul) := ⟨rfl, rfl, rfl, by decide +kernel, rfl, by decide +kernel, by decide +kernel⟩
abbrev s_law_div : Stmt := top 30
def N_law_div : List Str := ["one", "other"]
theorem sc_law_div : FnScope N_law_div ["one", "other"] (defScope s_law_div) := ⟨rfl, rfl, rfl, by decide +kernel, rfl, by decide +kernel, by decide +kernel⟩
abbrev s_law_dot : Stmt := top 31
def N_law_dot : List Str := ["row", "other", "found", "k"]
theorem sc_law_dot : FnScope N_law_dot ["row", "other"] (defScope s_law_dot) := ⟨rfl, rfl, rfl, by decide +kernel, rfl, by decide +kernel, by decide +kernel⟩
abbrev s_law_fraction : Stmt := top 32
def N_law_fraction : List Str := ["pool", "way"]
theorem sc_law_fraction : FnScope N_law_fraction ["pool"] (defScope s_law_fraction) := ⟨rfl, rfl, rfl, by decide +kernel, rfl, by decide +kernel, by decide +kernel⟩
abbrev s_law_row : Stmt := top 33
def N_law_row : List Str := ["pool", "count", "k"]
theorem sc_law_row : FnScope N_law_row ["pool", "count"] (defScope s_law_row) := ⟨rfl, rfl, rfl, by decide +kernel, rfl, by decide +kernel, by decide +kernel⟩
abbrev s_law_minus : Stmt := top 34
def N_law_minus : List Str := ["row", "other", "factor", "k"]
theorem sc_law_minus : FnScope N_law_minus ["row", "other", "factor"] (defScope s_law_minus) := ⟨rfl, rfl, rfl, by decide +kernel, rfl, by decide +kernel, by decide +kernel⟩
abbrev s_law_combined : Stmt := top 35
def N_law_combined : List Str := ["rows", "factors", "count", "found", "at", "k"]
theorem sc_law_combined : FnScope N_law_combined ["rows", "factors", "count"] (defScope s_law_combined) := ⟨rfl, rfl, rfl, by decide +kernel, rfl, by decide +kernel, by decide +kernel⟩
abbrev s_law_lawful : Stmt := top 36
def N_law_lawful : List Str := ["rows", "free", "x", "k", "coefficients", "sense", "right", "rest"]
theorem sc_law_lawful : FnScope N_law_lawful ["rows", "free", "x"] (defScope s_law_lawful) := ⟨rfl, rfl, rfl, by decide +kernel, rfl, by decide +kernel, by decide +kernel⟩
abbrev s_law_holds : Stmt := top 37
def N_law_holds : List Str := ["goal", "rows", "free", "y", "at", "found", "k", "rest", "row"]
theorem sc_law_holds : FnScope N_law_holds ["goal", "rows", "free", "y"] (defScope s_law_holds) := ⟨rfl, rfl, rfl, by decide +kernel, rfl, by decide +kernel, by decide +kernel⟩
abbrev s_law_value : Stmt := top 38
def N_law_value : List Str := ["rows", "y", "row"]
theorem sc_law_value : FnScope N_law_value ["rows", "y"] (defScope s_law_value) := ⟨rfl, rfl, rfl, by decide +kernel, rfl, by decide +kernel, by decide +kernel⟩
abbrev s_law_copied : Stmt := top 39
def N_law_copied : List Str := ["goal", "rows", "free", "row"]
theorem sc_law_copied : FnScope N_law_copied ["goal", "rows", "free"] (defScope s_law_copied) := ⟨rfl, rfl, rfl, by decide +kernel, rfl, by decide +kernel, by decide +kernel⟩
abbrev s_law_positive : Stmt := top 40
def N_law_positive : List Str := ["pool"]
theorem sc_law_positive : FnScope N_law_positive ["pool"] (defScope s_law_positive) := ⟨rfl, rfl, rfl, by decide +kernel, rfl, by decide +kernel, by decide +kernel⟩
abbrev s_law_made_best : Stmt := top 41
def N_law_made_best : List Str := ["pool", "count", "many", "free", "x", "rows", "y", "k", "row", "sense", "met", "goal"]
theorem sc_law_made_best : FnScope N_law_made_best ["pool", "count", "many"] (defScope s_law_made_best) := ⟨rfl, rfl, rfl, by decide +kernel, rfl, by decide +kernel, by decide +kernel⟩
abbrev s_law_made_none : Stmt := top 42
def N_law_made_none : List Str := ["pool", "count", "many", "free", "rows", "y", "found", "last", "k", "more", "right", "row"]
theorem sc_law_made_none : FnScope N_law_made_none ["pool", "count", "many"] (defScope s_law_made_none) := ⟨rfl, rfl, rfl, by decide +kernel, rfl, by decide +kernel, by decide +kernel⟩
abbrev s_law_made_endless : Stmt := top 43
def N_law_made_endless : List Str := ["pool", "count", "many", "free", "x", "r", "place", "rows", "k", "row", "sense", "drop", "room", "goal"]
theorem sc_law_made_endless : FnScope N_law_made_endless ["pool", "count", "many"] (defScope s_law_made_endless) := ⟨rfl, rfl, rfl, by decide +kernel, rfl, by decide +kernel, by decide +kernel⟩
abbrev s_law_bent : Stmt := top 44
def N_law_bent : List Str := ["pool", "made", "goal", "rows", "free", "first", "second", "way", "change", "at", "k", "row", "sense", "right", "place", "number"]
theorem sc_law_bent : FnScope N_law_bent ["pool", "made"] (defScope s_law_bent) := ⟨rfl, rfl, rfl, by decide +kernel, rfl, by decide +kernel, by decide +kernel⟩
abbrev s_law_due : Stmt := top 45
def N_law_due : List Str := ["word", "made", "goal", "rows", "free", "first", "second", "zeros", "ray", "number", "row"]
theorem sc_law_due : FnScope N_law_due ["word", "made"] (defScope s_law_due) := ⟨rfl, rfl, rfl, by decide +kernel, rfl, by decide +kernel, by decide +kernel⟩
abbrev s_law : Stmt := top 46
def N_law : List Str := ["script", "pool", "word", "count", "many", "made", "turn", "bent", "goal", "rows", "free", "second", "told"]
theorem sc_law : FnScope N_law ["script"] (defScope s_law) := ⟨rfl, rfl, rfl, by decide +kernel, rfl, by decide +kernel, by decide +kernel⟩
local macro_rules | `(tactic| walk_at "pd") => `(tactic| ((with_reducible refine' je_callPd ?zn ?zb ?zk ?_ ?z1 ?z2 ?z3); (case zn => with_reducible assumption); (case zb => with_reducible assumption); (case zk => first | exact Nat.le_refl _ | decide); (case z1 => decide); (case z2 => rfl); (case z3 => rfl)))
local macro_rules | `(tactic| walk_at "vw") => `(tactic| first
  | (with_reducible refine' vk_nil ?_)
  | (with_reducible refine' vk_d ?_)
  | ((with_reducible refine' vk_l ?z1 ?z2 ?_); (case z1 => rfl); (first | (case z2 => exact dsOf_map _) | (case z2 => rfl) | rotate_left))
  | ((with_reducible refine' vk_k ?z1 ?z2 ?_); (case z1 => rfl); (first | (case z2 => exact dsOf_map _) | (case z2 => rfl) | rotate_left)))
local macro_rules | `(tactic| walk_at "cb") => `(tactic| ((with_reducible refine' je_callB ?zn ?zb ?zk ?_ ?z1 ?z2 ?z3); (case zn => with_reducible assumption); (case zb => with_reducible assumption); (case zk => first | exact Nat.le_refl _ | decide); (case z1 => decide); (case z2 => rfl); (case z3 => rfl)))
local macro_rules | `(tactic| walk_at "bd") => `(tactic| first | omega | decide | (constructor <;> omega) | (left; constructor <;> omega) | (right; constructor <;> omega))
local macro_rules | `(tactic| walk_at "je") => `(tactic| first
  | ((with_reducible refine' je_name ?zn ?zh ?zq); (case zn => with_reducible assumption); (case zh => rfl))
  | (with_reducible refine' je_int ?_)
  | (with_reducible refine' je_str ?_)
  | (with_reducible refine' je_bin ?_)
  | ((with_reducible refine' je_sub ?_ ?zs); (case zs => intro _ _; rfl))
  | (with_reducible refine' je_sliceS ?_)
  | ((with_reducible refine' je_cmp ?_ ?zs); (case zs => rfl))
  | ((with_reducible refine' je_get2 ?zb ?_ ?zm); (case zb => with_reducible assumption); (case zm => exact ⟨rfl, rfl, rfl, rfl⟩))
  | ((with_reducible refine' je_gcd ?zg ?_ ?z1 ?z2 ?z3); (case zg => with_reducible assumption); (case z1 => decide); (case z2 => intro _ _; rfl); (case z3 => intro _ _; rfl))
  | ((with_reducible refine' je_listD ?zg ?_ ?zs); (case zg => with_reducible assumption); (case zs => intro _ _; rfl))
  | ((with_reducible refine' je_dictD ?zg ?_ ?zs); (case zg => with_reducible assumption); (case zs => intro _ _; rfl))
  | ((with_reducible refine' je_callNK ?zn ?zb ?zk ?zm ?_ ?z1 ?z2 ?z3); (case zn => with_reducible assumption); (case zb => with_reducible assumption); (case zk => first | exact Nat.le_refl _ | decide); (case zm => assumption); (case z1 => decide); (case z2 => rfl); (case z3 => rfl))
  | (with_reducible refine' je_tup ?_)
  | (with_reducible refine' je_lst ?_)
  | ((with_reducible refine' je_len ?zg ?_ ?zs); (case zg => with_reducible assumption); (case zs => intro _ _; rfl))
  | ((with_reducible refine' je_intc ?zg ?_ ?zs); (case zg => with_reducible assumption); (case zs => intro _ _; rfl))
  | ((with_reducible refine' je_abs ?zg ?_ ?zs); (case zg => with_reducible assumption); (case zs => intro _ _; rfl))
  | ((with_reducible refine' je_stri ?zg ?_ ?zs); (case zg => with_reducible assumption); (case zs => intro _ _; rfl))
  | (with_reducible refine' je_bl ?_)
  | ((with_reducible refine' je_isi ?zg ?zt ?zv ?_ ?z1 ?z2 ?z3); (case zg => with_reducible assumption); (case zt => with_reducible assumption); (case zv => first | exact PyProof.Rows.boot_dict | exact PyProof.Rows.boot_list | exact PyProof.Rows.boot_tuple | exact PyProof.Rows.boot_str | exact PyProof.Rows.boot_int | exact PyProof.Rows.boot_bool); (case z1 => decide); (case z2 => decide); (case z3 => intro _ _; rfl))
  | (with_reducible refine' je_non ?_)
  | ((with_reducible refine' je_glob ?zn ?zq); (case zn => with_reducible assumption))
  | ((with_reducible refine' je_chain ?_ ?zs); (case zs => with_unfolding_all rfl))
  | (with_reducible refine' je_not ?_)
  | (with_reducible refine' je_un ?_)
  | (with_reducible refine' je_one ?_)
  | (with_reducible refine' je_and ?_)
  | (with_reducible refine' je_or ?_)
  | (with_reducible refine' je_ife ?_)
  | ((with_reducible refine' je_callX ?zn ?zb ?zk ?_ ?z1 ?z2 ?z3); (case zn => with_reducible assumption); (case zb => with_reducible assumption); (case zk => first | exact Nat.le_refl _ | decide); (case z1 => decide); (case z2 => rfl); (case z3 => rfl))
  | ((with_reducible refine' je_callC ?zn ?zb ?zk ?_ ?z1 ?z2 ?z3); (case zn => with_reducible assumption); (case zb => with_reducible assumption); (case zk => first | exact Nat.le_refl _ | decide); (case z1 => decide); (case z2 => rfl); (case z3 => rfl)))
local macro_rules | `(tactic| walk_at "jr") => `(tactic| first
  | (with_reducible refine' jr_add ?_)
  | (with_reducible refine' jr_sub ?_)
  | ((with_reducible refine' jr_mod ?zc ?_); (first | (case zc => assumption) | (case zc => omega) | (case zc => assumption) | rotate_left))
  | ((with_reducible refine' jr_mulS ?z1 ?z2 ?_); (first | (case z1 => decide) | rotate_left); (first | (case z2 => constructor <;> omega) | rotate_left))
  | ((with_reducible refine' jr_mul ?zc ?_); (first | (case zc => assumption) | (case zc => left; first | (left; omega) | (right; omega)) | (case zc => right; exact wide_mul (a := 128) (b := 128) (by omega) (by omega) (by decide) (by decide) (by decide)) | rotate_left))
  | ((with_reducible refine' jr_fdiv ?zc ?_); (first | (case zc => assumption) | (case zc => left; constructor <;> omega) | rotate_left))
  | ((with_reducible refine' jr_pow ?zc ?_); (case zc => exact ⟨by decide, by decide, by decide⟩))
  | (with_reducible refine' jr_lt ?_)
  | (with_reducible refine' jr_le ?_)
  | (with_reducible refine' jr_gt ?_)
  | (with_reducible refine' jr_ge ?_)
  | ((with_reducible refine' jr_eqQ ?zb ?_); (case zb => with_reducible assumption))
  | ((with_reducible refine' jr_neQ ?zb ?_); (case zb => with_reducible assumption))
  | ((with_reducible refine' jr_inStrs ?zh ?zk ?_); (case zh => rfl); (case zk => first | exact Or.inl rfl | exact Or.inr rfl))
  | ((with_reducible refine' jr_ninStrs ?zh ?zk ?_); (case zh => rfl); (case zk => first | exact Or.inl rfl | exact Or.inr rfl))
  | (with_reducible refine' jr_eqiS ?_)
  | (with_reducible refine' jr_eqsS ?_)
  | (with_reducible refine' jr_eqbS ?_)
  | (with_reducible refine' jr_nebS ?_)
  | (with_reducible refine' jr_eqi ?_)
  | (with_reducible refine' jr_nei ?_)
  | (with_reducible refine' jr_eqs ?_)
  | (with_reducible refine' jr_nes ?_)
  | (with_reducible refine' jr_eqb ?_)
  | (with_reducible refine' jr_neb ?_)
  | ((with_reducible refine' jr_isNF ?zh ?_); (case zh => rfl))
  | ((with_reducible refine' jr_isNT ?zh ?_); (case zh => rfl))
  | ((with_reducible refine' jr_notNF ?zh ?_); (case zh => rfl))
  | ((with_reducible refine' jr_notNT ?zh ?_); (case zh => rfl))
  | ((with_reducible refine' jr_isF ?zh ?_); (case zh => rfl))
  | ((with_reducible refine' jr_isT ?zh ?_); (case zh => rfl))
  | ((with_reducible refine' jr_inD ?zb ?zh ?zk ?_); (case zb => with_reducible assumption); (case zh => rfl); (first | (case zk => rfl) | (case zk => with_reducible assumption) | rotate_left))
  | ((with_reducible refine' jr_ninD ?zb ?zh ?zk ?_); (case zb => with_reducible assumption); (case zh => rfl); (first | (case zk => rfl) | (case zk => with_reducible assumption) | rotate_left))
  | ((with_reducible refine' jr_adds ?zc ?_); (first | (case zc => assumption) | rotate_left)))
local macro_rules | `(tactic| walk_at "jx") => `(tactic|
  ((with_reducible refine' jx_seq ?zh ?zk ?za ?zq); (case zh => rfl); (case zk => first | exact Or.inl rfl | exact Or.inr rfl); (case za => rfl)))
local macro_rules | `(tactic| walk_at "jv") => `(tactic| first
  | (with_reducible refine' jv_int_i ?_)
  | (with_reducible refine' jv_int_b ?_)
  | ((with_reducible refine' jv_len_str ?zh ?zq); (first | (case zh => assumption) | rotate_left))
  | ((with_reducible refine' jv_len_nd ?zh ?zk ?zq); (case zh => rfl); (case zk => intro _ _ z; cases z)))
local macro_rules | `(tactic| walk_at "jt") => `(tactic| first
  | (with_reducible refine' jt_not ?_)
  | ((with_reducible refine' jt_cmp ?_ ?zs); (case zs => rfl))
  | ((with_reducible refine' jt_chain ?_ ?zs); (case zs => with_unfolding_all rfl))
  | (with_reducible refine' jt_w (jw_and ?_))
  | (with_reducible refine' jt_w (jw_or ?_))
  | ((with_reducible refine' jt_val ?_ ?zs); (case zs => intro _; rfl)))
local macro_rules | `(tactic| walk_at "js") => `(tactic| first
  | ((with_reducible refine' jss_set ?zn ?_ ?zs); (case zn => with_reducible assumption); (case zs => rfl))
  | (with_reducible refine' jss_ret ?_)
  | (with_reducible refine' jss_ifr ?_)
  | (with_reducible refine' jss_ifbr ?_)
  | (with_reducible refine' jss_if1 ?_)
  | ((with_reducible refine' jss_ifL ?zl ?_); (case zl => rfl))
  | (with_reducible refine' jss_nilT ?_)
  | (with_reducible refine' jss_nil ?_)
  | (with_reducible refine' jss_retN ?_)
  | (with_reducible refine' jss_break ?_)
  | (with_reducible refine' jss_cont ?_)
  | (with_reducible refine' jss_doc ?_)
  | ((with_reducible refine' jss_expr ?_ ?zs); (case zs => rfl))
  | ((with_reducible refine' jss_asg ?_ ?zs ?zt ?zu); (case zs => rfl); (case zt => rfl); (case zu => rfl)))
local macro_rules | `(tactic| walk_at "jg") => `(tactic| first
  | ((with_reducible refine' jg_name ?zn ?_); (case zn => with_reducible assumption))
  | ((with_reducible refine' jg_tup ?zb ?zn ?zl ?_ ?z1 ?z2); (case zb => with_reducible assumption); (case zn => rfl); (case zl => rfl); (case z1 => rfl); (case z2 => rfl))
  | ((with_reducible refine' jg_setX ?zb ?zh ?_ ?zs); (case zb => with_reducible assumption); (case zh => with_reducible assumption); (case zs => intro _; rfl)))
local macro_rules | `(tactic| walk_at "br") => `(tactic| first
  | (with_reducible refine' L2.iteT ?_)
  | (with_reducible refine' L2.iteF ?_)
  | (with_reducible refine' ite_nT ?_)
  | (with_reducible refine' ite_nF ?_)
  | ((with_reducible refine' ite_dec ?_ ?_) <;> intro hb <;> try (exfalso; omega))
  | ((with_reducible refine' ite_ndec ?_ ?_) <;> intro hb <;> try (exfalso; omega))
  | ((with_reducible refine' ite_bool ?_ ?_) <;> intro hb)
  | ((with_reducible refine' ite_nbool ?_ ?_) <;> intro hb))
local macro_rules | `(tactic| walk_at "ja") => `(tactic| first
  | (with_reducible refine' ja_nil ?_)
  | ((with_reducible refine' ja_cons ?_ ?zs); (case zs => rfl)))
local macro_rules | `(tactic| walk_at "jw") => `(tactic| first
  | (with_reducible refine' jw_and ?_)
  | (with_reducible refine' jw_or ?_)
  | (with_reducible refine' jw_and1 ?_)
  | (with_reducible refine' jw_or1 ?_))
local macro_rules | `(tactic| walk_at "st") => `(tactic| first
  | ((with_reducible show JE _ _ _ _ _); walk_at "je")
  | ((with_reducible show JR _ _ _ _ _ _ _); walk_at "jr")
  | ((with_reducible show JX _ _ _ _ _ _); walk_at "jx")
  | ((with_reducible show JA _ _ _ _ _); walk_at "ja")
  | ((with_reducible show JSs _ _ _ _ _); walk_at "js")
  | ((with_reducible show JT _ _ _ _ _); walk_at "jt")
  | ((with_reducible show JV _ _ _ _ _ _); walk_at "jv")
  | ((with_reducible show JG _ _ _ _ _ _); walk_at "jg")
  | ((with_reducible show JGs _ _ _ _ _ _); (first | with_reducible refine' jgs_nil ?_ | ((with_reducible refine' jgs_cons ?_ ?zs); (case zs => rfl)) | refine' jgs_nil ?_ | ((refine' jgs_cons ?_ ?zs); (case zs => rfl))))
  | ((with_reducible show JW _ _ _ _ _); walk_at "jw")
  | ((with_reducible show JO _ _ _ _ _); (first | with_reducible refine' jo_none ?_ | with_reducible refine' jo_some ?_))
  | ((with_reducible show JU _ _ _ _ _ _); with_reducible refine' ju_neg ?_)
  | ((with_reducible show And (LE.le _ sizeLine) _); refine And.intro ?_ ?_)
  | ((with_reducible show LE.le _ sizeLine); with_reducible assumption)
  | ((with_reducible show And (LT.lt (Nat.log2 _) _) _); refine And.intro ?_ ?_; with_reducible assumption)
  | ((with_reducible show LE.le _ sizeLine); (rw [sizeLine_eq]); (first | (simp only [List.length_cons, List.length_nil, List.length_append, List.length_map]; omega) | (simp; done)))
  | (with_reducible refine' ⟨_, rfl, ?_⟩)
  | ((with_reducible show VwK _ _ _); walk_at "vw")
  | ((with_reducible refine' rtX_P ?_ ?zd); (case zd => rfl))
  | ((with_reducible refine' rtX_B ?zd ?_); (case zd => rfl))
  | (with_reducible refine' rtΦ_dat ?_)
  | (with_reducible refine' rtΦ_new ?_)
  | (with_reducible refine' rtE_d ?_)
  | (refine' ⟨_, _, rfl, ?zkit, ?_⟩; (case zkit => with_reducible (show kitB _ _ = some _); with_reducible first | exact kit_NoneType_dict | exact kit_NoneType_list | exact kit_NoneType_tuple | exact kit_NoneType_str | exact kit_NoneType_int | exact kit_NoneType_bool | exact kit_bool_dict | exact kit_bool_list | exact kit_bool_tuple | exact kit_bool_str | exact kit_bool_int | exact kit_bool_bool | exact kit_int_dict | exact kit_int_list | exact kit_int_tuple | exact kit_int_str | exact kit_int_int | exact kit_int_bool | exact kit_str_dict | exact kit_str_list | exact kit_str_tuple | exact kit_str_str | exact kit_str_int | exact kit_str_bool | exact kit_tuple_dict | exact kit_tuple_list | exact kit_tuple_tuple | exact kit_tuple_str | exact kit_tuple_int | exact kit_tuple_bool | exact kit_list_dict | exact kit_list_list | exact kit_list_tuple | exact kit_list_str | exact kit_list_int | exact kit_list_bool | exact kit_dict_dict | exact kit_dict_list | exact kit_dict_tuple | exact kit_dict_str | exact kit_dict_int | exact kit_dict_bool))
  | (refine' ⟨_, _, _, _, _, rfl, rfl, rfl, dsOf_map _, ?_⟩)
  | walk_at "br")
local macro_rules | `(tactic| walk_at "go") => `(tactic| repeat' walk_at "st")
abbrev lsI (ns : List Int) : D := .nd .lst (ns.map .int)
def R_mixed : RP := fun ds post => ∃ n p : Int, ds = [.int n, .int p] ∧ ∀ r : Int, 0 ≤ r → post (.dat (.int r))
def R_rest : RP := fun ds post => ∃ (ns : List Int) (n p : Int), ds = [lsI ns, .int n, .int p] ∧ ∀ r : Int, 0 ≤ r → post (.dat (.int r))
/-- a pool -/
def PoolD (cds : List D) : Prop := ∃ (ns : List Int) (i n f : Int), cds = [lsI ns, .int i, .int n, .int f] ∧ 0 ≤ n
def R_pool : RP := fun ds post => ∃ (ns : List Int), ds = [lsI ns] ∧ ∀ cds, PoolD cds → post (.new .lst cds)
def R_next : RC1 := fun kd cds ds post => kd = .lst ∧ PoolD cds ∧ ds = [] ∧ ∀ cds', PoolD cds' → post (.dat .non) .lst cds'
def Lim (m : Int) : Prop := 0 < m ∧ m.natAbs.log2 < 9000
def R_draw : RC1 := fun kd cds ds post => kd = .lst ∧ PoolD cds ∧ ∃ m : Int, ds = [.int m] ∧ Lim m ∧ ∀ (v : Int) cds', 0 ≤ v → v < m → PoolD cds' → post (.dat (.int v)) .lst cds'
def R_pick : RC1 := fun kd cds ds post => kd = .lst ∧ PoolD cds ∧ ∃ (k : Kd) (os : List D), ds = [.nd k os] ∧ (k = .lst ∨ k = .tup) ∧ 0 < os.length ∧ os.length ≤ 1000 ∧ ∀ d cds', d ∈ os → PoolD cds' → post (.dat d) .lst cds'
theorem mo_mixed : MonoP R_mixed := fun ds p q m ⟨a, b, e, h⟩ => ⟨a, b, e, fun r hr => m _ (h r hr)⟩
theorem mo_rest : MonoP R_rest := fun ds p q m ⟨a, b, c, e, h⟩ => ⟨a, b, c, e, fun r hr => m _ (h r hr)⟩
theorem mo_pool : MonoP R_pool := fun ds p q m ⟨a, e, h⟩ => ⟨a, e, fun r hr => m _ (h r hr)⟩
theorem mo_next : MonoC R_next := fun kd cds ds p q m ⟨a, b, c, h⟩ => ⟨a, b, c, fun r hr => m _ _ _ (h r hr)⟩
theorem mo_draw : MonoC R_draw := fun kd cds ds p q m ⟨a, b, c, d, e, h⟩ => ⟨a, b, c, d, e, fun v r h1 h2 h3 => m _ _ _ (h v r h1 h2 h3)⟩
theorem mo_pick : MonoC R_pick := fun kd cds ds p q m ⟨a, b, c, d, e, f, g, i, h⟩ => ⟨a, b, c, d, e, f, g, i, fun v r h1 h2 => m _ _ _ (h v r h1 h2)⟩
theorem lim_of {m : Int} (h : 0 < m) (h2 : m.natAbs < 2 ^ 1000) : Lim m := ⟨h, Nat.lt_trans (PySem.Flt.log2_lt_of (by decide) h2) (by decide)⟩
theorem ap_mixed {n p : Int} {post : Rt → Prop} (h : ∀ r : Int, 0 ≤ r → post (.dat (.int r))) : R_mixed [.int n, .int p] post := ⟨n, p, rfl, h⟩
theorem ap_rest {ns : List Int} {n p : Int} {post : Rt → Prop} (h : ∀ r : Int, 0 ≤ r → post (.dat (.int r))) : R_rest [lsI ns, .int n, .int p] post := ⟨ns, n, p, rfl, h⟩
theorem ap_pool {ns : List Int} {post : Rt → Prop} (h : ∀ cds, PoolD cds → post (.new .lst cds)) : R_pool [lsI ns] post := ⟨ns, rfl, h⟩
theorem ap_next {cds : List D} {post : Rt → Kd → List D → Prop} (hp : PoolD cds) (h : ∀ cds', PoolD cds' → post (.dat .non) .lst cds') : R_next .lst cds [] post := ⟨rfl, hp, rfl, h⟩
theorem ap_draw {cds : List D} {m : Int} {post : Rt → Kd → List D → Prop} (hp : PoolD cds) (hm : Lim m) (h : ∀ (v : Int) cds', 0 ≤ v → v < m → PoolD cds' → post (.dat (.int v)) .lst cds') : R_draw .lst cds [.int m] post := ⟨rfl, hp, m, rfl, hm, h⟩
theorem ap_pick {cds os : List D} {k : Kd} {post : Rt → Kd → List D → Prop} (hp : PoolD cds) (hk : k = .lst ∨ k = .tup) (h0 : 0 < os.length) (h1 : os.length ≤ 1000) (h : ∀ d cds', d ∈ os → PoolD cds' → post (.dat d) .lst cds') : R_pick .lst cds [.nd k os] post := ⟨rfl, hp, k, os, rfl, hk, h0, h1, h⟩
theorem atI_mod {α : Type} {xs : List α} (h : 0 < xs.length) (i : Int) : ∃ x, L2.atI xs (i % (xs.length : Int)) = some x ∧ x ∈ xs := by
  have h1 : 0 ≤ i % (xs.length : Int) := Int.emod_nonneg _ (by omega)
  have h2 : i % (xs.length : Int) < xs.length := Int.emod_lt_of_pos _ (by omega)
  obtain ⟨j, hj⟩ : ∃ j : Nat, i % (xs.length : Int) = (j : Int) := ⟨(i % (xs.length : Int)).toNat, by omega⟩
  have hl : j < xs.length := by omega
  exact ⟨xs[j], by rw [hj]; exact L2.atI_nat (List.getElem?_eq_getElem hl), List.getElem_mem hl⟩
theorem atI_in {α : Type} {xs : List α} {i : Int} (h1 : 0 ≤ i) (h2 : i < xs.length) : ∃ x, L2.atI xs i = some x ∧ x ∈ xs := by
  obtain ⟨j, hj⟩ : ∃ j : Nat, i = (j : Int) := ⟨i.toNat, by omega⟩
  have hl : j < xs.length := by omega
  exact ⟨xs[j], by rw [hj]; exact L2.atI_nat (List.getElem?_eq_getElem hl), List.getElem_mem hl⟩
/-! fractions: what the program's and the law's own functions promise -/
def R_gcd : RP := fun ds post => ∃ a b : Int, ds = [.int a, .int b] ∧ 0 ≤ a ∧ 0 ≤ b ∧ Bd 4000 a ∧ Bd 4000 b ∧ post (.dat (.int (Int.gcd a b : Nat)))
theorem ap_gcd {a b : Int} {post : Rt → Prop} (h1 : 0 ≤ a) (h2 : 0 ≤ b) (ha : Bd 4000 a) (hb : Bd 4000 b) (h : post (.dat (.int (Int.gcd a b : Nat)))) : R_gcd [.int a, .int b] post := ⟨a, b, rfl, h1, h2, ha, hb, h⟩
theorem mo_gcd : MonoP R_gcd := fun ds p q m ⟨a, b, c, d, e, f, g, h⟩ => ⟨a, b, c, d, e, f, g, m _ h⟩
structure GI (a0 b0 i a b : Nat) : Prop where
  g : Nat.gcd a b = Nat.gcd a0 b0
  ha : a < 2 ^ 4000
  hb : b < 2 ^ 4000
  z : 0 < i → b < a ∧ a * b * 2 ^ (i - 1) ≤ 2 ^ 8000
theorem GI.go {a0 b0 i a b : Nat} (h : GI a0 b0 i a b) (hb : b ≠ 0) : GI a0 b0 (i + 1) b (a % b) := by
  have hr : a % b < b := Nat.mod_lt _ (by omega)
  refine ⟨?_, h.hb, Nat.lt_trans hr h.hb, fun _ => ⟨hr, ?_⟩⟩
  · rw [← h.g, Nat.gcd_comm b, ← Nat.gcd_rec, Nat.gcd_comm]
  · rw [Nat.add_sub_cancel]
    by_cases hi : i = 0
    · subst hi
      rw [Nat.pow_zero, Nat.mul_one]
      have h1 : b * (a % b) ≤ 2 ^ 4000 * 2 ^ 4000 := Nat.mul_le_mul (Nat.le_of_lt h.hb) (Nat.le_of_lt (Nat.lt_trans hr h.hb))
      rw [← Nat.pow_add] at h1
      exact h1
    · obtain ⟨h1, h2⟩ := h.z (by omega)
      have e : 2 ^ i = 2 * 2 ^ (i - 1) := by rw [← Nat.pow_succ']; congr 1; omega
      have h3 : 2 * (a % b) ≤ a := by
        have := Nat.div_add_mod a b
        have h4 : 1 ≤ a / b := Nat.div_pos (by omega) (by omega)
        have h5 : b * 1 ≤ b * (a / b) := Nat.mul_le_mul_left b h4
        omega
      have h6 : b * (a % b) * 2 ^ i = (b * (2 * (a % b))) * 2 ^ (i - 1) := by rw [e]; simp only [Nat.mul_assoc, Nat.mul_left_comm, Nat.mul_comm]
      rw [h6]
      refine Nat.le_trans (Nat.mul_le_mul_right _ (Nat.mul_le_mul_left b h3)) ?_
      rw [Nat.mul_comm b a]
      exact h2
theorem GI.fin {a0 b0 i a b : Nat} (h : GI a0 b0 i a b) (hi : 20000 ≤ i) : b = 0 := by
  obtain ⟨h1, h2⟩ := h.z (by omega)
  apply Classical.byContradiction
  intro hb
  have h3 : 1 ≤ a * b := Nat.mul_pos (by omega) (by omega)
  have h4 : 2 ^ (i - 1) ≤ 2 ^ 8000 := Nat.le_trans (by have := Nat.mul_le_mul_right (2 ^ (i - 1)) h3; rw [Nat.one_mul] at this; exact this) h2
  have := (Nat.pow_le_pow_iff_right (a := 2) (by decide)).mp h4
  omega
/-- p / q, q above 0 (the program's own), q not 0 (the law's) -/
def R_ratP : RP := fun ds post => ∃ p q : Int, ds = [.int p, .int q] ∧ 0 < q ∧ Bd 4000 p ∧ Bd 4000 q ∧ post (.dat (frQ (Rat.divInt p q)))
theorem ap_ratP {p q : Int} {post : Rt → Prop} (hq : 0 < q) (h1 : Bd 4000 p) (h2 : Bd 4000 q) (h : post (.dat (frQ (Rat.divInt p q)))) : R_ratP [.int p, .int q] post := ⟨p, q, rfl, hq, h1, h2, h⟩
theorem mo_ratP : MonoP R_ratP := fun ds p q m ⟨a, b, c, d, e, f, h⟩ => ⟨a, b, c, d, e, f, m _ h⟩
def R_ratQ : RP := fun ds post => ∃ p q : Int, ds = [.int p, .int q] ∧ q ≠ 0 ∧ Bd 4000 p ∧ Bd 4000 q ∧ post (.dat (frQ (Rat.divInt p q)))
theorem ap_ratQ {p q : Int} {post : Rt → Prop} (hq : q ≠ 0) (h1 : Bd 4000 p) (h2 : Bd 4000 q) (h : post (.dat (frQ (Rat.divInt p q)))) : R_ratQ [.int p, .int q] post := ⟨p, q, rfl, hq, h1, h2, h⟩
theorem mo_ratQ : MonoP R_ratQ := fun ds p q m ⟨a, b, c, d, e, f, h⟩ => ⟨a, b, c, d, e, f, m _ h⟩
/-- an operation on two fractions -/
def R_op (op : Rat → Rat → Rat) (C : Rat → Rat → Prop) : RP := fun ds post => ∃ (x y : Rat) (k l : Nat), ds = [frQ x, frQ y] ∧ QB k x ∧ QB l y ∧ 0 < k ∧ 0 < l ∧ k + l + 1 ≤ 4000 ∧ C x y ∧ post (.dat (frQ (op x y)))
theorem ap_op {op : Rat → Rat → Rat} {C : Rat → Rat → Prop} {x y : Rat} (k l : Nat) {post : Rt → Prop} (h1 : QB k x) (h2 : QB l y) (h3 : 0 < k) (h4 : 0 < l) (h5 : k + l + 1 ≤ 4000) (h6 : C x y) (h : post (.dat (frQ (op x y)))) : R_op op C [frQ x, frQ y] post := ⟨x, y, k, l, rfl, h1, h2, h3, h4, h5, h6, h⟩
theorem mo_op (op : Rat → Rat → Rat) (C : Rat → Rat → Prop) : MonoP (R_op op C) := fun ds p q m ⟨a, b, c, d, e, f, g, i, j, k, n, h⟩ => ⟨a, b, c, d, e, f, g, i, j, k, n, m _ h⟩
abbrev R_add : RP := R_op (· + ·) fun _ _ => True
abbrev R_less : RP := R_op (· - ·) fun _ _ => True
abbrev R_mul : RP := R_op (· * ·) fun _ _ => True
abbrev R_over : RP := R_op (· / ·) fun _ y => y ≠ 0
structure Bs (mg : Str → Option Value) : Prop where
  b_int : mg "int" = none
  b_len : mg "len" = none
structure Bs2 (mg : Str → Option Value) : Prop extends Bs mg where
  b_range : mg "range" = none
  b_abs : mg "abs" = none
  b_str : mg "str" = none
  b_isinstance : mg "isinstance" = none
  b_all : mg "all" = none
  b_zip : mg "zip" = none
  b_tuple : mg "tuple" = none
  b_dict : mg "dict" = none
  b_list : mg "list" = none
  b_bool : mg "bool" = none
  k_gcd : mg "gcd" = some (.builtin "math.gcd")
abbrev R_overP : RP := R_op (· / ·) fun _ y => 0 < y.num
section
variable {P : Program} {w : World} {K : PySem.W.Frag} {mg : Str → Option Value} {base : Heap}
theorem ok_law_mixed {f : Addr} {fd : FuncData} (C : Bs mg) (Fu : Fun K "_law_mixed" "_law_mixed" s_law_mixed f fd) : FnOk P w K mg base CX0 1 f fd ["number", "place"] (spP K R_mixed) := by
  refine fn_P Fu sc_law_mixed (fun ds post h => ?_) fun X F ds post hX hfn hH h => ?_
  · obtain ⟨n, p, rfl, _⟩ := h
    rfl
  · obtain ⟨n, p, rfl, k⟩ := h
    have bx := hX.bx
    have r0 := hX.nmR (i := 0) (x := "number") rfl (by first | exact Or.inl (by decide +kernel) | exact Or.inr (Or.inl (by decide +kernel))); have w0 := hX.nmW (i := 0) (x := "number") rfl (by decide +kernel); have r1 := hX.nmR (i := 1) (x := "place") rfl (by first | exact Or.inl (by decide +kernel) | exact Or.inr (Or.inl (by decide +kernel))); have w1 := hX.nmW (i := 1) (x := "place") rfl (by decide +kernel); have r2 := hX.nmR (i := 2) (x := "first") rfl (by first | exact Or.inl (by decide +kernel) | exact Or.inr (Or.inl (by decide +kernel))); have w2 := hX.nmW (i := 2) (x := "first") rfl (by decide +kernel); have r3 := hX.nmR (i := 3) (x := "second") rfl (by first | exact Or.inl (by decide +kernel) | exact Or.inr (Or.inl (by decide +kernel))); have w3 := hX.nmW (i := 3) (x := "second") rfl (by decide +kernel); have r4 := hX.nmR (i := 4) (x := "third") rfl (by first | exact Or.inl (by decide +kernel) | exact Or.inr (Or.inl (by decide +kernel))); have w4 := hX.nmW (i := 4) (x := "third") rfl (by decide +kernel); have g_int := hX.glb (x := "int") (by decide +kernel) C.b_int
    conv => (arg 3; whnf)
    walk_at "go"
    exact k _ (by omega)
theorem ok_law_rest {f : Addr} {fd : FuncData} (C : Bs mg) (c_law_mixed : CaP P w K mg base "_law_mixed" 1 R_mixed) (Fu : Fun K "_law_rest" "_law_rest" s_law_rest f fd) : FnOk P w K mg base CX0 2 f fd ["script", "place", "fills"] (spP K R_rest) := by
  refine fn_P Fu sc_law_rest (fun ds post h => ?_) fun X F ds post hX hfn hH h => ?_
  · obtain ⟨ns, n, p, rfl, _⟩ := h
    rfl
  · obtain ⟨ns, n, p, rfl, k⟩ := h
    have bx := hX.bx
    have r0 := hX.nmR (i := 0) (x := "script") rfl (by first | exact Or.inl (by decide +kernel) | exact Or.inr (Or.inl (by decide +kernel))); have w0 := hX.nmW (i := 0) (x := "script") rfl (by decide +kernel); have r1 := hX.nmR (i := 1) (x := "place") rfl (by first | exact Or.inl (by decide +kernel) | exact Or.inr (Or.inl (by decide +kernel))); have w1 := hX.nmW (i := 1) (x := "place") rfl (by decide +kernel); have r2 := hX.nmR (i := 2) (x := "fills") rfl (by first | exact Or.inl (by decide +kernel) | exact Or.inr (Or.inl (by decide +kernel))); have w2 := hX.nmW (i := 2) (x := "fills") rfl (by decide +kernel); have r3 := hX.nmR (i := 3) (x := "number") rfl (by first | exact Or.inl (by decide +kernel) | exact Or.inr (Or.inl (by decide +kernel))); have w3 := hX.nmW (i := 3) (x := "number") rfl (by decide +kernel); have g_len := hX.glb (x := "len") (by decide +kernel) C.b_len; have g_int := hX.glb (x := "int") (by decide +kernel) C.b_int; have d_law_mixed := c_law_mixed.at hX (by decide +kernel)
    conv => (arg 3; whnf)
    walk_at "st"; walk_at "st"
    refine jss_ifM (fun s1 => ∃ z : Int, s1 = (entry N_law_rest (List.map E.d [lsI ns, D.int n, D.int p]) [] 0).set 3 (E.d (D.int z))) ?_ ?_
    · walk_at "go"
      · have hl : 0 < ((ns.map D.int).map E.d).length := by omega
        obtain ⟨x, h1, h2⟩ := atI_mod hl n
        refine jx_seq rfl (.inl rfl) h1 ?_
        simp only [List.map_map, List.mem_map, Function.comp] at h2
        obtain ⟨z, _, rfl⟩ := h2
        walk_at "go"
        exact ⟨z, rfl⟩
      · exact ⟨0, rfl⟩
    · rintro s1 ⟨z, rfl⟩
      refine jss_ifM (fun s1 => ∃ z : Int, 0 ≤ z ∧ s1 = (entry N_law_rest (List.map E.d [lsI ns, D.int n, D.int p]) [] 0).set 3 (E.d (D.int z))) ?_ ?_
      · walk_at "go"
        · exact ⟨1 - 2 * z, by omega, rfl⟩
        · exact ⟨z, by omega, rfl⟩
      · rintro s1 ⟨z, hz, rfl⟩
        walk_at "go"
        · have e : (10 : Int) ^ Int.toNat 18 = 1000000000000000000 := by decide
          rename_i hb
          rw [e] at hb ⊢
          exact k _ (by omega)
        all_goals refine ap_mixed fun r hr => ?_
        all_goals exact k _ hr
theorem ok_law_pool {f : Addr} {fd : FuncData} (C : Bs mg) (c_law_rest : CaP P w K mg base "_law_rest" 2 R_rest) (Fu : Fun K "_law_pool" "_law_pool" s_law_pool f fd) : FnOk P w K mg base CX0 3 f fd ["script"] (spP K R_pool) := by
  refine fn_P Fu sc_law_pool (fun ds post h => ?_) fun X F ds post hX hfn hH h => ?_
  · obtain ⟨ns, rfl, _⟩ := h
    rfl
  · obtain ⟨ns, rfl, k⟩ := h
    have bx := hX.bx
    have r0 := hX.nmR (i := 0) (x := "script") rfl (by first | exact Or.inl (by decide +kernel) | exact Or.inr (Or.inl (by decide +kernel))); have w0 := hX.nmW (i := 0) (x := "script") rfl (by decide +kernel); have d_law_rest := c_law_rest.at hX (by decide +kernel)
    conv => (arg 3; whnf)
    refine jss_ret (je_own (jn_lst ?_))
    walk_at "go"
    refine ap_rest fun r hr => ?_
    walk_at "go"
    exact ⟨rfl, .lst, _, _, rfl, rfl, Nat.zero_le _, k _ ⟨ns, _, _, _, rfl, hr⟩⟩
theorem ok_law_next {f : Addr} {fd : FuncData} (C : Bs mg) (c_law_rest : CaP P w K mg base "_law_rest" 2 R_rest) (Fu : Fun K "_law_next" "_law_next" s_law_next f fd) : FnOk P w K mg base CX0 3 f fd ["pool"] (spC K R_next) := by
  refine fn_C Fu sc_law_next (fun kd cds ds post h => ?_) fun X F kd cds ds post hX hfn hH h => ?_
  · obtain ⟨_, _, rfl, _⟩ := h
    rfl
  · obtain ⟨rfl, ⟨ns, i, n, g, rfl, hn⟩, rfl, k⟩ := h
    have bx := hX.bx
    have r0 := hX.nmR (i := 0) (x := "pool") rfl (by first | exact Or.inl (by decide +kernel) | exact Or.inr (Or.inl (by decide +kernel))); have w0 := hX.nmW (i := 0) (x := "pool") rfl (by decide +kernel); have d_law_rest := c_law_rest.at hX (by decide +kernel)
    conv => (arg 3; whnf)
    walk_at "go"
    refine .inl ⟨0, _, _, _, rfl, rfl, rfl, rfl, ?_⟩
    walk_at "go"
    refine ap_rest fun r hr => ?_
    walk_at "go"
    refine .inl ⟨0, _, _, _, rfl, rfl, rfl, rfl, ?_⟩
    walk_at "go"
    refine .inl ⟨0, _, _, _, rfl, rfl, rfl, rfl, ?_⟩
    walk_at "go"
    exact ⟨.lst, _, _, rfl, rfl, k _ ⟨ns, _, _, _, rfl, hr⟩⟩
theorem ok_law_draw {f : Addr} {fd : FuncData} (C : Bs mg) (c_law_rest : CaP P w K mg base "_law_rest" 2 R_rest) (Fu : Fun K "_law_draw" "_law_draw" s_law_draw f fd) : FnOk P w K mg base CX0 3 f fd ["pool", "limit"] (spC K R_draw) := by
  refine fn_C Fu sc_law_draw (fun kd cds ds post h => ?_) fun X F kd cds ds post hX hfn hH h => ?_
  · obtain ⟨_, _, m, rfl, _⟩ := h
    rfl
  · obtain ⟨rfl, ⟨ns, i, n, g, rfl, hn⟩, m, rfl, ⟨hm, hm2⟩, k⟩ := h
    have bx := hX.bx
    have r0 := hX.nmR (i := 0) (x := "pool") rfl (by first | exact Or.inl (by decide +kernel) | exact Or.inr (Or.inl (by decide +kernel))); have w0 := hX.nmW (i := 0) (x := "pool") rfl (by decide +kernel); have r1 := hX.nmR (i := 1) (x := "limit") rfl (by first | exact Or.inl (by decide +kernel) | exact Or.inr (Or.inl (by decide +kernel))); have w1 := hX.nmW (i := 1) (x := "limit") rfl (by decide +kernel); have r2 := hX.nmR (i := 2) (x := "value") rfl (by first | exact Or.inl (by decide +kernel) | exact Or.inr (Or.inl (by decide +kernel))); have w2 := hX.nmW (i := 2) (x := "value") rfl (by decide +kernel); have d_law_rest := c_law_rest.at hX (by decide +kernel); have g_int := hX.glb (x := "int") (by decide +kernel) C.b_int
    conv => (arg 3; whnf)
    refine jss_ifM (fun s1 => ∃ n g : Int, 0 ≤ n ∧ s1 = entry N_law_draw (E.r 0 :: List.map E.d [D.int m]) [.nd .lst (List.map E.d [lsI ns, .int i, .int n, .int g])] 1) ?_ ?_
    · walk_at "go"
      · refine .inl ⟨0, _, _, _, rfl, rfl, rfl, rfl, ?_⟩
        walk_at "go"
        refine ap_rest fun r hr => ?_
        walk_at "go"
        refine .inl ⟨0, _, _, _, rfl, rfl, rfl, rfl, ?_⟩
        walk_at "go"
        exact ⟨r, g + 1, hr, rfl⟩
      · exact ⟨n, g, hn, rfl⟩
    · rintro s1 ⟨n, g, hn, rfl⟩
      have hW : CDiv n m ∨ CDivW n m := .inr ⟨hm, hm2⟩
      walk_at "go"
      refine .inl ⟨0, _, _, _, rfl, rfl, rfl, rfl, ?_⟩
      walk_at "go"
      refine ⟨.lst, _, _, rfl, rfl, ?_⟩
      exact k _ _ (Int.emod_nonneg _ (by omega)) (Int.emod_lt_of_pos _ hm) ⟨ns, _, _, _, rfl, Int.ediv_nonneg hn (by omega)⟩
theorem ok_law_pick {f : Addr} {fd : FuncData} (C : Bs mg) (c_law_draw : CaC P w K mg base "_law_draw" 3 R_draw) (Fu : Fun K "_law_pick" "_law_pick" s_law_pick f fd) : FnOk P w K mg base CX0 4 f fd ["pool", "options"] (spC K R_pick) := by
  refine fn_C Fu sc_law_pick (fun kd cds ds post h => ?_) fun X F kd cds ds post hX hfn hH h => ?_
  · obtain ⟨_, _, k, os, rfl, _⟩ := h
    rfl
  · obtain ⟨rfl, hp, kk, os, rfl, hk, h0, h1, k⟩ := h
    have bx := hX.bx
    have r0 := hX.nmR (i := 0) (x := "pool") rfl (by first | exact Or.inl (by decide +kernel) | exact Or.inr (Or.inl (by decide +kernel))); have w0 := hX.nmW (i := 0) (x := "pool") rfl (by decide +kernel); have r1 := hX.nmR (i := 1) (x := "options") rfl (by first | exact Or.inl (by decide +kernel) | exact Or.inr (Or.inl (by decide +kernel))); have w1 := hX.nmW (i := 1) (x := "options") rfl (by decide +kernel); have d_law_draw := c_law_draw.at hX (by decide +kernel); have g_len := hX.glb (x := "len") (by decide +kernel) C.b_len
    conv => (arg 3; whnf)
    have hkk : ∀ C fs, kk ≠ .ins C fs := by rcases hk with rfl | rfl <;> intro _ _ z <;> cases z
    walk_at "go"
    refine jv_len_nd rfl hkk ?_
    walk_at "go"
    have hl : (os.map E.d).length = os.length := by simp
    refine ap_draw hp (lim_of (by omega) (by omega)) fun v cds' v0 v1 hp' => ?_
    rw [hl] at v1
    refine rtΦ_dat ?_
    obtain ⟨x, x1, x2⟩ := atI_in (xs := os.map E.d) v0 (by omega)
    obtain ⟨d, hd, rfl⟩ := List.mem_map.mp x2
    refine jx_seq rfl hk x1 ?_
    exact ⟨.lst, _, _, rfl, dsOf_map _, k _ _ hd hp'⟩
theorem ok_law_gcd {f : Addr} {fd : FuncData} (C : Bs2 mg) (Fu : Fun K "_law_gcd" "_law_gcd" s_law_gcd f fd) : FnOk P w K mg base CX0 1 f fd ["one", "other"] (spP K R_gcd) := by
  refine fn_P Fu sc_law_gcd (fun ds post h => ?_) fun X F ds post hX hfn hH h => ?_
  · obtain ⟨a, b, rfl, _⟩ := h
    rfl
  · obtain ⟨a0, b0, rfl, h1, h2, ha, hb, k⟩ := h
    obtain ⟨a0, rfl⟩ := Int.eq_ofNat_of_zero_le h1
    obtain ⟨b0, rfl⟩ := Int.eq_ofNat_of_zero_le h2
    have ha : a0 < 2 ^ 4000 := ha
    have hb : b0 < 2 ^ 4000 := hb
    have k : post (.dat (.int (Nat.gcd a0 b0 : Nat))) := k
    have bx := hX.bx
    have r0 := hX.nmR (i := 0) (x := "one") rfl (by first | exact Or.inl (by decide +kernel) | exact Or.inr (Or.inl (by decide +kernel))); have w0 := hX.nmW (i := 0) (x := "one") rfl (by decide +kernel); have r1 := hX.nmR (i := 1) (x := "other") rfl (by first | exact Or.inl (by decide +kernel) | exact Or.inr (Or.inl (by decide +kernel))); have w1 := hX.nmW (i := 1) (x := "other") rfl (by decide +kernel); have r2 := hX.nmR (i := 2) (x := "k") rfl (by first | exact Or.inl (by decide +kernel) | exact Or.inr (Or.inl (by decide +kernel))); have w2 := hX.nmW (i := 2) (x := "k") rfl (by decide +kernel); have g_range := hX.glb (x := "range") (by decide +kernel) C.b_range; have g_int := hX.glb (x := "int") (by decide +kernel) C.b_int
    conv => (arg 3; whnf)
    refine jss_for bx (fun i s => ∃ a b : Nat, GI a0 b0 i a b ∧ ∃ o, s = ⟨[some (.d (.int a)), some (.d (.int b)), o], [], 0⟩) (ji_range1 g_range ?_) (by intro _; rfl)
    walk_at "go"
    refine ⟨by decide, ⟨a0, b0, ⟨rfl, ha, hb, fun z => absurd z (Nat.lt_irrefl _)⟩, _, rfl⟩, ?_, ?_⟩
    · rintro i v s' hi hv ⟨a, b, g, o, rfl⟩
      obtain rfl : v = _ := hv
      walk_at "go"
      · rename_i hb0
        obtain rfl : b = 0 := by omega
        have e := g.g
        rw [Nat.gcd_zero_right] at e
        rw [e]; exact k
      · rename_i hb0
        have hW : CDiv (a : Int) b ∨ CDivW (a : Int) b := .inr ⟨by omega, by rw [Int.natAbs_natCast]; exact Nat.lt_trans (PySem.Flt.log2_lt_of (by decide) g.hb) (by decide)⟩
        refine jss_par' hX w0 w1 (by decide) (by decide +kernel) (by decide +kernel) ?_ rfl
        walk_at "go"
        exact ⟨b, a % b, g.go (by omega), _, rfl⟩
    · rintro s' ⟨a, b, g, o, rfl⟩
      obtain rfl := g.fin (Nat.le_refl _)
      walk_at "go"
      have e := g.g
      rw [Nat.gcd_zero_right] at e
      rw [e]; exact k
theorem ok_law_ratio {f : Addr} {fd : FuncData} (C : Bs2 mg) (c_law_gcd : CaP P w K mg base "_law_gcd" 1 R_gcd) (Fu : Fun K "_law_ratio" "_law_ratio" s_law_ratio f fd) : FnOk P w K mg base CX0 2 f fd ["p", "q"] (spP K R_ratQ) := by
  refine fn_P Fu sc_law_ratio (fun ds post h => ?_) fun X F ds post hX hfn hH h => ?_
  · obtain ⟨a, b, rfl, _⟩ := h
    rfl
  · obtain ⟨p, q, rfl, hq, hp, hq2, k⟩ := h
    have bx := hX.bx
    have r0 := hX.nmR (i := 0) (x := "p") rfl (by first | exact Or.inl (by decide +kernel) | exact Or.inr (Or.inl (by decide +kernel))); have w0 := hX.nmW (i := 0) (x := "p") rfl (by decide +kernel); have r1 := hX.nmR (i := 1) (x := "q") rfl (by first | exact Or.inl (by decide +kernel) | exact Or.inr (Or.inl (by decide +kernel))); have w1 := hX.nmW (i := 1) (x := "q") rfl (by decide +kernel); have r2 := hX.nmR (i := 2) (x := "shared") rfl (by first | exact Or.inl (by decide +kernel) | exact Or.inr (Or.inl (by decide +kernel))); have w2 := hX.nmW (i := 2) (x := "shared") rfl (by decide +kernel); have d_law_gcd := c_law_gcd.at hX (by decide +kernel); have g_abs := hX.glb (x := "abs") (by decide +kernel) C.b_abs
    conv => (arg 3; whnf)
    refine jss_ifM (fun s1 => ∃ p' q' : Int, 0 < q' ∧ Rat.divInt p' q' = Rat.divInt p q ∧ Bd 4000 p' ∧ Bd 4000 q' ∧ ∃ o, s1 = ⟨[some (.d (.int p')), some (.d (.int q')), o], [], 0⟩) ?_ ?_
    · walk_at "go"
      · refine jss_par' hX w0 w1 (by decide) (by decide +kernel) (by decide +kernel) ?_ rfl
        walk_at "go"
        exact ⟨-p, -q, by omega, divInt_neg2 p q, hp.neg, hq2.neg, _, rfl⟩
      · exact ⟨p, q, by omega, rfl, hp, hq2, _, rfl⟩
    · rintro s1 ⟨p', q', h1, h2, h3, h4, o, rfl⟩
      walk_at "go"
      have e : (if p' < 0 then -p' else p').natAbs = p'.natAbs := by split <;> omega
      refine ap_gcd (by split <;> omega) (by omega) (h3.le (by rw [e]; omega)) h4 ?_
      have e2 : Int.gcd (if p' < 0 then -p' else p') q' = Int.gcd p' q' := by unfold Int.gcd; rw [e]
      rw [e2]
      have hg : 0 < (Int.gcd p' q' : Int) := by
        have := Int.gcd_pos_of_ne_zero_right p' (show q' ≠ 0 by omega)
        omega
      have hgq : Int.gcd p' q' ≤ q'.natAbs := Nat.le_of_dvd (by omega) (Nat.gcd_dvd_right _ _)
      have hgb : Bd 4000 (Int.gcd p' q' : Int) := h4.le (by rw [Int.natAbs_natCast]; omega)
      have z1 : CDiv p' (Int.gcd p' q' : Int) ∨ CDivW p' (Int.gcd p' q' : Int) := hgb.cdiv hg (by decide) (by decide)
      have z2 : CDiv q' (Int.gcd p' q' : Int) ∨ CDivW q' (Int.gcd p' q' : Int) := hgb.cdiv hg (by decide) (by decide)
      walk_at "go"
      rw [frQ_div h1, h2]
      exact k
theorem fdiv_m {p g : Int} (hg : 0 < g) (hd : g ∣ p) : p.fdiv (-g) = (-p) / g := by
  rw [Int.fdiv_neg (by omega), if_pos hd, Int.fdiv_eq_ediv_of_nonneg _ (by omega), Int.neg_ediv_of_dvd hd]
theorem ok_ratio {f : Addr} {fd : FuncData} (C : Bs2 mg) (Fu : Fun K "ratio" "ratio" s_ratio f fd) : FnOk P w K mg base CX0 2 f fd ["p", "q"] (spP K R_ratQ) := by
  refine fn_P Fu sc_ratio (fun ds post h => ?_) fun X F ds post hX hfn hH h => ?_
  · obtain ⟨a, b, rfl, _⟩ := h
    rfl
  · obtain ⟨p, q, rfl, hq, hp, hq2, k⟩ := h
    have bx := hX.bx
    have r0 := hX.nmR (i := 0) (x := "p") rfl (by first | exact Or.inl (by decide +kernel) | exact Or.inr (Or.inl (by decide +kernel))); have w0 := hX.nmW (i := 0) (x := "p") rfl (by decide +kernel); have r1 := hX.nmR (i := 1) (x := "q") rfl (by first | exact Or.inl (by decide +kernel) | exact Or.inr (Or.inl (by decide +kernel))); have w1 := hX.nmW (i := 1) (x := "q") rfl (by decide +kernel); have r2 := hX.nmR (i := 2) (x := "shared") rfl (by first | exact Or.inl (by decide +kernel) | exact Or.inr (Or.inl (by decide +kernel))); have w2 := hX.nmW (i := 2) (x := "shared") rfl (by decide +kernel)
    have g_gcd := hX.glf (x := "gcd") (by decide +kernel) C.k_gcd
    conv => (arg 3; whnf)
    have hg : 0 < (Int.gcd p q : Int) := by
      have := Int.gcd_pos_of_ne_zero_right p hq
      omega
    have hgq : Int.gcd p q ≤ q.natAbs := Nat.le_of_dvd (by omega) (Nat.gcd_dvd_right _ _)
    have hgb : Bd 4000 (Int.gcd p q : Int) := hq2.le (by rw [Int.natAbs_natCast]; exact hgq)
    have hgp : (Int.gcd p q : Int) ∣ p := Int.gcd_dvd_left ..
    have hgq3 : (Int.gcd p q : Int) ∣ q := Int.gcd_dvd_right ..
    walk_at "go"
    refine ⟨p, q, rfl, rfl, ?_⟩
    walk_at "go"
    generalize hG : (Int.gcd p q : Int) = g at hg hgb hgp hgq3
    have z1 : CDiv p g ∨ CDivW p g := hgb.cdiv hg (by decide) (by decide)
    have z2 : CDiv q g ∨ CDivW q g := hgb.cdiv hg (by decide) (by decide)
    have z3 : CDivZ p (-g) := ⟨by omega, by rw [Int.natAbs_neg]; exact Nat.lt_trans (hgb.lg (by decide)) (by decide)⟩
    have z4 : CDivZ q (-g) := z3
    refine jss_if ?_
    iterate 5 walk_at "st"
    refine ite_dec (fun hb => ?_) (fun hb => ?_)
    · walk_at "st"; walk_at "st"; walk_at "st"; walk_at "st"; walk_at "st"; walk_at "st"; walk_at "st"; walk_at "st"; walk_at "st"
      walk_at "st"; walk_at "st"
      refine jr_fdivZ z3 ?_
      walk_at "st"; walk_at "st"; walk_at "st"; walk_at "st"
      refine jr_fdivZ z4 ?_
      walk_at "go"
      have e1 : (Int.gcd (-p) (-q) : Int) = g := by rw [Int.gcd_neg, Int.neg_gcd, hG]
      have e2 := frQ_div (p := -p) (q := -q) (by omega)
      rw [e1, divInt_neg2] at e2
      rw [fdiv_m hg hgp, fdiv_m hg hgq3, e2]
      exact k
    · walk_at "go"
      rw [← hG, frQ_div (by omega)]
      exact k
theorem ok_law_add {f : Addr} {fd : FuncData} (c_law_ratio : CaP P w K mg base "_law_ratio" 2 R_ratQ) (Fu : Fun K "_law_add" "_law_add" s_law_add f fd) : FnOk P w K mg base CX0 3 f fd ["one", "other"] (spP K R_add) := by
  refine fn_P Fu sc_law_add (fun ds post h => ?_) fun X F ds post hX hfn hH h => ?_
  · obtain ⟨_, _, _, _, rfl, _⟩ := h
    rfl
  · obtain ⟨x, y, k, l, rfl, h1, h2, h3, h4, h5, h6, kk⟩ := h
    have bx := hX.bx
    have r0 := hX.nmR (i := 0) (x := "one") rfl (by first | exact Or.inl (by decide +kernel) | exact Or.inr (Or.inl (by decide +kernel))); have w0 := hX.nmW (i := 0) (x := "one") rfl (by decide +kernel); have r1 := hX.nmR (i := 1) (x := "other") rfl (by first | exact Or.inl (by decide +kernel) | exact Or.inr (Or.inl (by decide +kernel))); have w1 := hX.nmW (i := 1) (x := "other") rfl (by decide +kernel); have d_law_ratio := c_law_ratio.at hX (by decide +kernel)
    conv => (arg 3; whnf)
    have z1 := h1.n.cmul h2.db h3 h4 (by omega)
    have z2 := h2.n.cmul h1.db h4 h3 (by omega)
    have z3 := h1.db.cmul h2.db h3 h4 (by omega)
    have y1 : Bd (k + l + 1) (x.num * y.den + y.num * x.den) := (h1.n.mul h2.db).add ((h2.n.mul h1.db).mono (by omega))
    have y2 : Bd (k + l + 1) (x.den * y.den) := (h1.db.mul h2.db).mono (by omega)
    have hpos := q_pos x y
    walk_at "go"
    refine ap_ratQ (Int.ne_of_gt hpos) (y1.mono h5) (y2.mono h5) ?_
    rw [q_add]
    exact kk
theorem ok_law_sub {f : Addr} {fd : FuncData} (c_law_ratio : CaP P w K mg base "_law_ratio" 2 R_ratQ) (Fu : Fun K "_law_sub" "_law_sub" s_law_sub f fd) : FnOk P w K mg base CX0 3 f fd ["one", "other"] (spP K R_less) := by
  refine fn_P Fu sc_law_sub (fun ds post h => ?_) fun X F ds post hX hfn hH h => ?_
  · obtain ⟨_, _, _, _, rfl, _⟩ := h
    rfl
  · obtain ⟨x, y, k, l, rfl, h1, h2, h3, h4, h5, h6, kk⟩ := h
    have bx := hX.bx
    have r0 := hX.nmR (i := 0) (x := "one") rfl (by first | exact Or.inl (by decide +kernel) | exact Or.inr (Or.inl (by decide +kernel))); have w0 := hX.nmW (i := 0) (x := "one") rfl (by decide +kernel); have r1 := hX.nmR (i := 1) (x := "other") rfl (by first | exact Or.inl (by decide +kernel) | exact Or.inr (Or.inl (by decide +kernel))); have w1 := hX.nmW (i := 1) (x := "other") rfl (by decide +kernel); have d_law_ratio := c_law_ratio.at hX (by decide +kernel)
    conv => (arg 3; whnf)
    have z1 := h1.n.cmul h2.db h3 h4 (by omega)
    have z2 := h2.n.cmul h1.db h4 h3 (by omega)
    have z3 := h1.db.cmul h2.db h3 h4 (by omega)
    have y1 : Bd (k + l + 1) (x.num * y.den - y.num * x.den) := (h1.n.mul h2.db).sub ((h2.n.mul h1.db).mono (by omega))
    have y2 : Bd (k + l + 1) (x.den * y.den) := (h1.db.mul h2.db).mono (by omega)
    have hpos := q_pos x y
    walk_at "go"
    refine ap_ratQ (Int.ne_of_gt hpos) (y1.mono h5) (y2.mono h5) ?_
    rw [q_sub]
    exact kk
theorem ok_law_mul {f : Addr} {fd : FuncData} (c_law_ratio : CaP P w K mg base "_law_ratio" 2 R_ratQ) (Fu : Fun K "_law_mul" "_law_mul" s_law_mul f fd) : FnOk P w K mg base CX0 3 f fd ["one", "other"] (spP K R_mul) := by
  refine fn_P Fu sc_law_mul (fun ds post h => ?_) fun X F ds post hX hfn hH h => ?_
  · obtain ⟨_, _, _, _, rfl, _⟩ := h
    rfl
  · obtain ⟨x, y, k, l, rfl, h1, h2, h3, h4, h5, h6, kk⟩ := h
    have bx := hX.bx
    have r0 := hX.nmR (i := 0) (x := "one") rfl (by first | exact Or.inl (by decide +kernel) | exact Or.inr (Or.inl (by decide +kernel))); have w0 := hX.nmW (i := 0) (x := "one") rfl (by decide +kernel); have r1 := hX.nmR (i := 1) (x := "other") rfl (by first | exact Or.inl (by decide +kernel) | exact Or.inr (Or.inl (by decide +kernel))); have w1 := hX.nmW (i := 1) (x := "other") rfl (by decide +kernel); have d_law_ratio := c_law_ratio.at hX (by decide +kernel)
    conv => (arg 3; whnf)
    have z1 := h1.n.cmul h2.n h3 h4 (by omega)
    have z3 := h1.db.cmul h2.db h3 h4 (by omega)
    have y1 : Bd (k + l + 1) (x.num * y.num) := (h1.n.mul h2.n).mono (by omega)
    have y2 : Bd (k + l + 1) (x.den * y.den) := (h1.db.mul h2.db).mono (by omega)
    have hpos := q_pos x y
    walk_at "go"
    refine ap_ratQ (Int.ne_of_gt hpos) (y1.mono h5) (y2.mono h5) ?_
    rw [q_mul]
    exact kk
theorem ok_law_div {f : Addr} {fd : FuncData} (c_law_ratio : CaP P w K mg base "_law_ratio" 2 R_ratQ) (Fu : Fun K "_law_div" "_law_div" s_law_div f fd) : FnOk P w K mg base CX0 3 f fd ["one", "other"] (spP K R_over) := by
  refine fn_P Fu sc_law_div (fun ds post h => ?_) fun X F ds post hX hfn hH h => ?_
  · obtain ⟨_, _, _, _, rfl, _⟩ := h
    rfl
  · obtain ⟨x, y, k, l, rfl, h1, h2, h3, h4, h5, h6, kk⟩ := h
    have bx := hX.bx
    have r0 := hX.nmR (i := 0) (x := "one") rfl (by first | exact Or.inl (by decide +kernel) | exact Or.inr (Or.inl (by decide +kernel))); have w0 := hX.nmW (i := 0) (x := "one") rfl (by decide +kernel); have r1 := hX.nmR (i := 1) (x := "other") rfl (by first | exact Or.inl (by decide +kernel) | exact Or.inr (Or.inl (by decide +kernel))); have w1 := hX.nmW (i := 1) (x := "other") rfl (by decide +kernel); have d_law_ratio := c_law_ratio.at hX (by decide +kernel)
    conv => (arg 3; whnf)
    have z1 := h1.n.cmul h2.db h3 h4 (by omega)
    have z3 := h1.db.cmul h2.n h3 h4 (by omega)
    have y1 : Bd (k + l + 1) (x.num * y.den) := (h1.n.mul h2.db).mono (by omega)
    have y2 : Bd (k + l + 1) (x.den * y.num) := (h1.db.mul h2.n).mono (by omega)
    have hne : (x.den : Int) * y.num ≠ 0 := Int.mul_ne_zero (Int.ne_of_gt (den_pos' x)) (fun z => h6 (Rat.num_eq_zero.mp z))
    walk_at "go"
    refine ap_ratQ hne (y1.mono h5) (y2.mono h5) ?_
    rw [q_over]
    exact kk
theorem ok_added {f : Addr} {fd : FuncData} (c_ratio : CaP P w K mg base "ratio" 2 R_ratQ) (Fu : Fun K "added" "added" s_added f fd) : FnOk P w K mg base CX0 3 f fd ["one", "other"] (spP K R_add) := by
  refine fn_P Fu sc_added (fun ds post h => ?_) fun X F ds post hX hfn hH h => ?_
  · obtain ⟨_, _, _, _, rfl, _⟩ := h
    rfl
  · obtain ⟨x, y, k, l, rfl, h1, h2, h3, h4, h5, h6, kk⟩ := h
    have bx := hX.bx
    have r0 := hX.nmR (i := 0) (x := "one") rfl (by first | exact Or.inl (by decide +kernel) | exact Or.inr (Or.inl (by decide +kernel))); have w0 := hX.nmW (i := 0) (x := "one") rfl (by decide +kernel); have r1 := hX.nmR (i := 1) (x := "other") rfl (by first | exact Or.inl (by decide +kernel) | exact Or.inr (Or.inl (by decide +kernel))); have w1 := hX.nmW (i := 1) (x := "other") rfl (by decide +kernel); have d_ratio := c_ratio.at hX (by decide +kernel)
    conv => (arg 3; whnf)
    have z1 := h1.n.cmul h2.db h3 h4 (by omega)
    have z2 := h2.n.cmul h1.db h4 h3 (by omega)
    have z3 := h1.db.cmul h2.db h3 h4 (by omega)
    have y1 : Bd (k + l + 1) (x.num * y.den + y.num * x.den) := (h1.n.mul h2.db).add ((h2.n.mul h1.db).mono (by omega))
    have y2 : Bd (k + l + 1) (x.den * y.den) := (h1.db.mul h2.db).mono (by omega)
    have hpos := q_pos x y
    walk_at "go"
    refine ap_ratQ (Int.ne_of_gt hpos) (y1.mono h5) (y2.mono h5) ?_
    rw [q_add]
    exact kk
theorem ok_times {f : Addr} {fd : FuncData} (c_ratio : CaP P w K mg base "ratio" 2 R_ratQ) (Fu : Fun K "times" "times" s_times f fd) : FnOk P w K mg base CX0 3 f fd ["one", "other"] (spP K R_mul) := by
  refine fn_P Fu sc_times (fun ds post h => ?_) fun X F ds post hX hfn hH h => ?_
  · obtain ⟨_, _, _, _, rfl, _⟩ := h
    rfl
  · obtain ⟨x, y, k, l, rfl, h1, h2, h3, h4, h5, h6, kk⟩ := h
    have bx := hX.bx
    have r0 := hX.nmR (i := 0) (x := "one") rfl (by first | exact Or.inl (by decide +kernel) | exact Or.inr (Or.inl (by decide +kernel))); have w0 := hX.nmW (i := 0) (x := "one") rfl (by decide +kernel); have r1 := hX.nmR (i := 1) (x := "other") rfl (by first | exact Or.inl (by decide +kernel) | exact Or.inr (Or.inl (by decide +kernel))); have w1 := hX.nmW (i := 1) (x := "other") rfl (by decide +kernel); have d_ratio := c_ratio.at hX (by decide +kernel)
    conv => (arg 3; whnf)
    have z1 := h1.n.cmul h2.n h3 h4 (by omega)
    have z3 := h1.db.cmul h2.db h3 h4 (by omega)
    have y1 : Bd (k + l + 1) (x.num * y.num) := (h1.n.mul h2.n).mono (by omega)
    have y2 : Bd (k + l + 1) (x.den * y.den) := (h1.db.mul h2.db).mono (by omega)
    have hpos := q_pos x y
    walk_at "go"
    refine ap_ratQ (Int.ne_of_gt hpos) (y1.mono h5) (y2.mono h5) ?_
    rw [q_mul]
    exact kk
/-- -1, 0 or 1 -/
def sgI (x : Rat) : Int := if x.num = 0 then 0 else if 0 < x.num then 1 else -1
def R_sign : RP := fun ds post => ∃ x : Rat, ds = [frQ x] ∧ post (.dat (.int (sgI x)))
theorem ap_sign {x : Rat} {post : Rt → Prop} (h : post (.dat (.int (sgI x)))) : R_sign [frQ x] post := ⟨x, rfl, h⟩
theorem mo_sign : MonoP R_sign := fun ds p q m ⟨a, b, h⟩ => ⟨a, b, m _ h⟩
def R_below : RP := fun ds post => ∃ (x y : Rat) (k l : Nat), ds = [frQ x, frQ y] ∧ QB k x ∧ QB l y ∧ 0 < k ∧ 0 < l ∧ k + l + 1 ≤ 4000 ∧ post (.dat (.bl (decide (x < y))))
theorem ap_below {x y : Rat} (k l : Nat) {post : Rt → Prop} (h1 : QB k x) (h2 : QB l y) (h3 : 0 < k) (h4 : 0 < l) (h5 : k + l + 1 ≤ 4000) (h : post (.dat (.bl (decide (x < y))))) : R_below [frQ x, frQ y] post := ⟨x, y, k, l, rfl, h1, h2, h3, h4, h5, h⟩
theorem mo_below : MonoP R_below := fun ds p q m ⟨a, b, c, d, e, f, g, i, j, k, h⟩ => ⟨a, b, c, d, e, f, g, i, j, k, m _ h⟩
theorem frQ_neg (x : Rat) : D.nd .tup [.int (-x.num), .int x.den] = frQ (-x) := by
  unfold frQ
  rw [Rat.neg_num, Rat.neg_den]
def R_neg : RP := fun ds post => ∃ x : Rat, ds = [frQ x] ∧ post (.dat (frQ (-x)))
theorem ap_neg {x : Rat} {post : Rt → Prop} (h : post (.dat (frQ (-x)))) : R_neg [frQ x] post := ⟨x, rfl, h⟩
theorem mo_neg : MonoP R_neg := fun ds p q m ⟨a, b, h⟩ => ⟨a, b, m _ h⟩
def R_whole : RP := fun ds post => ∃ (x : Rat) (k : Nat), ds = [frQ x] ∧ QB k x ∧ 0 < k ∧ k ≤ 4000 ∧ post (.dat (.int (x.num / x.den)))
theorem ap_whole {x : Rat} (k : Nat) {post : Rt → Prop} (h1 : QB k x) (h2 : 0 < k) (h3 : k ≤ 4000) (h : post (.dat (.int (x.num / x.den)))) : R_whole [frQ x] post := ⟨x, k, rfl, h1, h2, h3, h⟩
theorem mo_whole : MonoP R_whole := fun ds p q m ⟨a, b, c, d, e, f, h⟩ => ⟨a, b, c, d, e, f, m _ h⟩
theorem ok_sign {f : Addr} {fd : FuncData} (Fu : Fun K "sign" "sign" s_sign f fd) : FnOk P w K mg base CX0 1 f fd ["one"] (spP K R_sign) := by
  refine fn_P Fu sc_sign (fun ds post h => ?_) fun X F ds post hX hfn hH h => ?_
  · obtain ⟨_, rfl, _⟩ := h
    rfl
  · obtain ⟨x, rfl, k⟩ := h
    have bx := hX.bx
    have r0 := hX.nmR (i := 0) (x := "one") rfl (by first | exact Or.inl (by decide +kernel) | exact Or.inr (Or.inl (by decide +kernel))); have w0 := hX.nmW (i := 0) (x := "one") rfl (by decide +kernel)
    conv => (arg 3; whnf)
    unfold sgI at k
    walk_at "go"
    · rename_i h0
      rw [if_pos h0] at k
      exact k
    · rename_i h0 h1
      rw [if_neg h0, if_pos h1] at k
      exact k
    · rename_i h0 h1
      rw [if_neg h0, if_neg h1] at k
      exact k
theorem ok_below {f : Addr} {fd : FuncData} (Fu : Fun K "below" "below" s_below f fd) : FnOk P w K mg base CX0 1 f fd ["one", "other"] (spP K R_below) := by
  refine fn_P Fu sc_below (fun ds post h => ?_) fun X F ds post hX hfn hH h => ?_
  · obtain ⟨_, _, _, _, rfl, _⟩ := h
    rfl
  · obtain ⟨x, y, k, l, rfl, h1, h2, h3, h4, h5, kk⟩ := h
    have bx := hX.bx
    have r0 := hX.nmR (i := 0) (x := "one") rfl (by first | exact Or.inl (by decide +kernel) | exact Or.inr (Or.inl (by decide +kernel))); have w0 := hX.nmW (i := 0) (x := "one") rfl (by decide +kernel); have r1 := hX.nmR (i := 1) (x := "other") rfl (by first | exact Or.inl (by decide +kernel) | exact Or.inr (Or.inl (by decide +kernel))); have w1 := hX.nmW (i := 1) (x := "other") rfl (by decide +kernel)
    conv => (arg 3; whnf)
    have z1 := h1.n.cmul h2.db h3 h4 (by omega)
    have z2 := h2.n.cmul h1.db h4 h3 (by omega)
    rw [show decide (x < y) = decide (x.num * y.den < y.num * x.den) from decide_eq_decide.mpr (Rat.lt_iff x y)] at kk
    walk_at "go"
    exact kk
end
/-- alike: what stands in the one stands in the other, whatever the order of keys -/
def Sm : Nat → D → D → Prop
  | 0, _, _ => False
  | n + 1, a, .nd .tup ds => ∃ as, a = .nd .tup as ∧ as.length = ds.length ∧ ds.length ≤ 16000000 ∧ ∀ (i : Nat) (x y : D), as[i]? = some x → ds[i]? = some y → Sm n x y
  | n + 1, a, .nd .lst ds => ∃ as, a = .nd .lst as ∧ as.length = ds.length ∧ ds.length ≤ 16000000 ∧ ∀ (i : Nat) (x y : D), as[i]? = some x → ds[i]? = some y → Sm n x y
  | n + 1, a, .nd (.dct ks) ds => ∃ ka as, a = .nd (.dct ka) as ∧ as.length = ds.length ∧ ks.length = ds.length ∧ ks.Nodup ∧ ds.length ≤ 16000000 ∧ ∀ (i : Nat) (k : Key) (y : D), ks[i]? = some k → ds[i]? = some y → ∃ x, lk (ka.zip as) k = some x ∧ Sm n x y
  | _ + 1, _, .nd (.ins _ _) _ => False
  | _ + 1, a, .non => a = .non
  | _ + 1, a, .bl b => a = .bl b
  | _ + 1, a, .int b => a = .int b
  | _ + 1, a, .str b => a = .str b
def R_same (n : Nat) : RP := fun ds post => ∃ a d, ds = [a, d] ∧ Sm n a d ∧ post (.dat (.bl true))
theorem ap_same {n : Nat} {a d : D} {post : Rt → Prop} (h : Sm n a d) (q : post (.dat (.bl true))) : R_same n [a, d] post := ⟨a, d, rfl, h, q⟩
theorem mo_same (n : Nat) : MonoP (R_same n) := fun ds p q m ⟨a, b, c, d, h⟩ => ⟨a, b, c, d, m _ h⟩
section
variable {P : Program} {w : World} {K : PySem.W.Frag} {mg : Str → Option Value} {base : Heap}
theorem step_same (n : Nat) {f : Addr} {fd : FuncData} (C : Bs2 mg) (c_law_same : CaP P w K mg base "_law_same" n (R_same n)) (Fu : Fun K "_law_same" "_law_same" s_law_same f fd) : FnOk P w K mg base CX0 (n + 1) f fd ["answer", "due"] (spP K (R_same (n + 1))) := by
  refine fn_P Fu sc_law_same (fun ds post h => ?_) fun X F ds post hX hfn hH h => ?_
  · obtain ⟨_, _, rfl, _⟩ := h
    rfl
  · obtain ⟨a, d, rfl, h, k⟩ := h
    have bx := hX.bx
    have r0 := hX.nmR (i := 0) (x := "answer") rfl (by first | exact Or.inl (by decide +kernel) | exact Or.inr (Or.inl (by decide +kernel))); have w0 := hX.nmW (i := 0) (x := "answer") rfl (by decide +kernel); have r1 := hX.nmR (i := 1) (x := "due") rfl (by first | exact Or.inl (by decide +kernel) | exact Or.inr (Or.inl (by decide +kernel))); have w1 := hX.nmW (i := 1) (x := "due") rfl (by decide +kernel); have r2 := hX.nmR (i := 2) (x := "key") rfl (by first | exact Or.inl (by decide +kernel) | exact Or.inr (Or.inl (by decide +kernel))); have w2 := hX.nmW (i := 2) (x := "key") rfl (by decide +kernel); have r3 := hX.nmR (i := 3) (x := "k") rfl (by first | exact Or.inl (by decide +kernel) | exact Or.inr (Or.inl (by decide +kernel))); have w3 := hX.nmW (i := 3) (x := "k") rfl (by decide +kernel); have g_isinstance := hX.glb (x := "isinstance") (by decide +kernel) C.b_isinstance; have g_int := hX.glb (x := "int") (by decide +kernel) C.b_int; have g_bool := hX.glb (x := "bool") (by decide +kernel) C.b_bool; have g_str := hX.glb (x := "str") (by decide +kernel) C.b_str; have g_dict := hX.glb (x := "dict") (by decide +kernel) C.b_dict; have g_len := hX.glb (x := "len") (by decide +kernel) C.b_len; have d_law_same := c_law_same.at hX (by decide +kernel); have g_tuple := hX.glb (x := "tuple") (by decide +kernel) C.b_tuple; have g_list := hX.glb (x := "list") (by decide +kernel) C.b_list; have g_range := hX.glb (x := "range") (by decide +kernel) C.b_range
    conv => (arg 3; whnf)
    cases d with
    | non =>
      obtain rfl : a = _ := h
      walk_at "go"; exact k
    | bl b =>
      obtain rfl : a = _ := h
      cases b <;> (walk_at "go"; exact k)
    | int i =>
      obtain rfl : a = _ := h
      walk_at "go"; exact k
    | str z =>
      obtain rfl : a = _ := h
      walk_at "go"; exact k
    | nd kd ds =>
      cases kd with
      | ins C fs => exact h.elim
      | tup =>
        obtain ⟨as, rfl, hl, hs, hh⟩ := h
        have el : ((as.map E.d).length : Int) = ((ds.map E.d).length : Int) := by simp [hl]
        walk_at "go"
        refine jss_for bx (fun i s => ∃ o o2, s = ⟨[some (.d (.nd .tup as)), some (.d (.nd .tup ds)), o, o2], [], 0⟩) (ji_range1 g_range ?_) (by intro _; rfl)
        walk_at "go"
        have ln : (ds.map E.d).length = ds.length := List.length_map _
        refine ⟨by rw [ln]; omega, ⟨_, _, rfl⟩, ?_, ?_⟩
        · rintro i v s' hi hv ⟨o, o2, rfl⟩
          obtain rfl : v = _ := hv
          have hi2 : i < ds.length := by rw [ln] at hi; omega
          have hd : ds[i]? = some ds[i] := List.getElem?_eq_getElem hi2
          have ha : as[i]? = some (as[i]'(by omega)) := List.getElem?_eq_getElem (by omega)
          have zi : (0 : Int) + i = i := Int.zero_add _
          rw [zi]
          walk_at "go"
          refine jx_seq rfl (.inr rfl) (L2.atI_nat (by rw [List.getElem?_map, ha]; rfl)) ?_
          walk_at "go"
          refine jx_seq rfl (.inr rfl) (L2.atI_nat (by rw [List.getElem?_map, hd]; rfl)) ?_
          walk_at "go"
          refine ap_same (hh i _ _ ha hd) ?_
          walk_at "go"
          exact ⟨_, _, rfl⟩
        · rintro s' ⟨o, o2, rfl⟩
          walk_at "go"
          exact k
      | lst =>
        obtain ⟨as, rfl, hl, hs, hh⟩ := h
        have el : ((as.map E.d).length : Int) = ((ds.map E.d).length : Int) := by simp [hl]
        walk_at "go"
        refine jss_for bx (fun i s => ∃ o o2, s = ⟨[some (.d (.nd .lst as)), some (.d (.nd .lst ds)), o, o2], [], 0⟩) (ji_range1 g_range ?_) (by intro _; rfl)
        walk_at "go"
        have ln : (ds.map E.d).length = ds.length := List.length_map _
        refine ⟨by rw [ln]; omega, ⟨_, _, rfl⟩, ?_, ?_⟩
        · rintro i v s' hi hv ⟨o, o2, rfl⟩
          obtain rfl : v = _ := hv
          have hi2 : i < ds.length := by rw [ln] at hi; omega
          have hd : ds[i]? = some ds[i] := List.getElem?_eq_getElem hi2
          have ha : as[i]? = some (as[i]'(by omega)) := List.getElem?_eq_getElem (by omega)
          have zi : (0 : Int) + i = i := Int.zero_add _
          rw [zi]
          walk_at "go"
          refine jx_seq rfl (.inl rfl) (L2.atI_nat (by rw [List.getElem?_map, ha]; rfl)) ?_
          walk_at "go"
          refine jx_seq rfl (.inl rfl) (L2.atI_nat (by rw [List.getElem?_map, hd]; rfl)) ?_
          walk_at "go"
          refine ap_same (hh i _ _ ha hd) ?_
          walk_at "go"
          exact ⟨_, _, rfl⟩
        · rintro s' ⟨o, o2, rfl⟩
          walk_at "go"
          exact k
      | dct ks =>
        obtain ⟨ka, as, rfl, hl, hl2, nd, hs, hh⟩ := h
        have el : ((as.map E.d).length : Int) = ((ds.map E.d).length : Int) := by simp [hl]
        walk_at "go"
        refine jss_for bx (fun i s => ∃ o o2, s = ⟨[some (.d (.nd (.dct ka) as)), some (.d (.nd (.dct ks) ds)), o, o2], [], 0⟩) (ji_keys ?_) (by intro _; rfl)
        walk_at "go"
        refine ⟨_, _, rfl, ⟨_, _, rfl⟩, ?_, ?_⟩
        · rintro i v s' hi ⟨d, hd, rfl⟩ ⟨o, o2, rfl⟩
          rw [List.getElem?_map] at hd
          have hk : ks[i]? = some ks[i] := List.getElem?_eq_getElem hi
          rw [hk] at hd
          cases hd
          have hi2 : i < ds.length := by omega
          have hv : ds[i]? = some ds[i] := List.getElem?_eq_getElem hi2
          have hkE : keyE (.d (kD ks[i])) = some ks[i] := by cases ks[i] <;> rfl
          obtain ⟨x, hx, hsm⟩ := hh i _ _ hk hv
          walk_at "go"
          · rename_i hb
            rw [lk_memK hx] at hb
            cases hb
          · refine jx_dct bx.hu rfl hkE (by rw [lk_map, hx]; rfl) ?_
            walk_at "go"
            refine jx_dct bx.hu rfl hkE (lk_get (i := i) nd hk (by rw [List.getElem?_map, hv]; rfl)) ?_
            walk_at "go"
            refine ap_same hsm ?_
            walk_at "go"
            exact ⟨_, _, rfl⟩
        · rintro s' ⟨o, o2, rfl⟩
          walk_at "go"
          exact k
end
theorem frQ_0 : D.nd .tup [.int 0, .int 1] = frQ 0 := rfl
theorem frQ_1 : D.nd .tup [.int 1, .int 1] = frQ 1 := rfl
theorem frQ_int (n : Int) : D.nd .tup [.int n, .int 1] = frQ (n : Rat) := by
  unfold frQ
  rw [Rat.num_intCast, Rat.den_intCast]; rfl
theorem QB_int {k : Nat} {n : Int} (h : Bd k n) (h0 : 0 < k) : QB k (n : Rat) := ⟨by rw [Rat.num_intCast]; exact h, by rw [Rat.den_intCast]; exact Nat.one_lt_two_pow (by omega)⟩
theorem QB_0 {k : Nat} (h : 0 < k) : QB k 0 := ⟨by show (0 : Int).natAbs < 2 ^ _; exact Nat.two_pow_pos _, by show 1 < 2 ^ _; exact Nat.one_lt_two_pow (by omega)⟩
theorem sum_take {xs : List Rat} {i : Nat} {x : Rat} (h : xs[i]? = some x) : (xs.take (i + 1)).sum = (xs.take i).sum + x := by
  rw [← take_snoc h, List.sum_append]
  simp [Rat.add_zero]
theorem sum_QBk {k : Nat} {xs : List Rat} (h : ∀ x ∈ xs, QB k x) : ∀ i, i ≤ xs.length → QB (1 + (k + 1) * i) (xs.take i).sum
  | 0, _ => by rw [List.take_zero]; exact QB_0 (by omega)
  | i + 1, hi => by
    have hr : xs[i]? = some xs[i] := List.getElem?_eq_getElem (by omega)
    rw [sum_take hr]
    exact ((sum_QBk h i (by omega)).add (h _ (List.mem_of_getElem? hr))).mono (by rw [Nat.mul_add]; omega)
abbrev ZeroOk (P : Program) (w : World) (K : PySem.W.Frag) (mg : Str → Option Value) (base : Heap) : Prop := ∀ {X : Cx} {N : List Str} {sc : Scope} {k : Nat}, XIs X P w K mg base N sc k → sc.names.lookup ("ZERO" : Str) = some .globalImplicit → Gc X "ZERO" (frQ 0)
/-- a row of fractions -/
abbrev frs (xs : List Rat) : D := .nd .lst (xs.map frQ)
def dots (xs ys : List Rat) : List Rat := List.zipWith (· * ·) xs ys
def R_dot : RP := fun ds post => ∃ xs ys : List Rat, ds = [frs xs, frs ys] ∧ xs.length = ys.length ∧ xs.length ≤ 6 ∧ (∀ x ∈ xs, QB 250 x) ∧ (∀ y ∈ ys, QB 250 y) ∧ post (.dat (frQ (dots xs ys).sum))
theorem ap_dot {xs ys : List Rat} {post : Rt → Prop} (h0 : xs.length = ys.length) (h1 : xs.length ≤ 6) (h2 : ∀ x ∈ xs, QB 250 x) (h3 : ∀ x ∈ ys, QB 250 x) (h : post (.dat (frQ (dots xs ys).sum))) : R_dot [frs xs, frs ys] post := ⟨xs, ys, rfl, h0, h1, h2, h3, h⟩
theorem mo_dot : MonoP R_dot := fun ds p q m ⟨a, b, c, d, e, f, g, h⟩ => ⟨a, b, c, d, e, f, g, m _ h⟩
theorem dots_get {xs ys : List Rat} {i : Nat} {x y : Rat} (h1 : xs[i]? = some x) (h2 : ys[i]? = some y) : (dots xs ys)[i]? = some (x * y) := by
  unfold dots
  rw [List.getElem?_zipWith, h1, h2]
theorem dots_len {xs ys : List Rat} (h : xs.length = ys.length) : (dots xs ys).length = xs.length := by
  unfold dots; rw [List.length_zipWith]; omega
theorem dots_QB {xs ys : List Rat} (h1 : ∀ x ∈ xs, QB 250 x) (h2 : ∀ y ∈ ys, QB 250 y) : ∀ z ∈ dots xs ys, QB 500 z := by
  intro z hz
  unfold dots at hz
  obtain ⟨i, hi⟩ := List.getElem?_of_mem hz
  rw [List.getElem?_zipWith] at hi
  cases ex : xs[i]? with
  | none => rw [ex] at hi; cases hi
  | some x =>
    cases ey : ys[i]? with
    | none => rw [ex, ey] at hi; cases hi
    | some y =>
      rw [ex, ey] at hi
      cases hi
      exact (h1 x (List.mem_of_getElem? ex)).mul (h2 y (List.mem_of_getElem? ey))
theorem z_l {x y : Rat} (h : x.num = 0) : x * y = 0 := by rw [Rat.num_eq_zero.mp h, Rat.zero_mul]
theorem z_r {x y : Rat} (h : y.num = 0) : x * y = 0 := by rw [Rat.num_eq_zero.mp h, Rat.mul_zero]
section
variable {P : Program} {w : World} {K : PySem.W.Frag} {mg : Str → Option Value} {base : Heap}
theorem ok_dot {f : Addr} {fd : FuncData} (C : Bs2 mg) (gZ : ZeroOk P w K mg base) (c_added : CaP P w K mg base "added" 3 R_add) (c_times : CaP P w K mg base "times" 3 R_mul) (Fu : Fun K "dot" "dot" s_dot f fd) : FnOk P w K mg base CX0 4 f fd ["row", "other"] (spP K R_dot) := by
  refine fn_P Fu sc_dot (fun ds post h => ?_) fun X F ds post hX hfn hH h => ?_
  · obtain ⟨_, _, rfl, _⟩ := h
    rfl
  · obtain ⟨xs, ys, rfl, hl, h10, hx, hy, k⟩ := h
    have bx := hX.bx
    have r0 := hX.nmR (i := 0) (x := "row") rfl (by first | exact Or.inl (by decide +kernel) | exact Or.inr (Or.inl (by decide +kernel))); have w0 := hX.nmW (i := 0) (x := "row") rfl (by decide +kernel); have r1 := hX.nmR (i := 1) (x := "other") rfl (by first | exact Or.inl (by decide +kernel) | exact Or.inr (Or.inl (by decide +kernel))); have w1 := hX.nmW (i := 1) (x := "other") rfl (by decide +kernel); have r2 := hX.nmR (i := 2) (x := "found") rfl (by first | exact Or.inl (by decide +kernel) | exact Or.inr (Or.inl (by decide +kernel))); have w2 := hX.nmW (i := 2) (x := "found") rfl (by decide +kernel); have r3 := hX.nmR (i := 3) (x := "one") rfl (by first | exact Or.inl (by decide +kernel) | exact Or.inr (Or.inl (by decide +kernel))); have w3 := hX.nmW (i := 3) (x := "one") rfl (by decide +kernel); have r4 := hX.nmR (i := 4) (x := "two") rfl (by first | exact Or.inl (by decide +kernel) | exact Or.inr (Or.inl (by decide +kernel))); have w4 := hX.nmW (i := 4) (x := "two") rfl (by decide +kernel); have g_zip := hX.glb (x := "zip") (by decide +kernel) C.b_zip; have d_added := c_added.at hX (by decide +kernel); have d_times := c_times.at hX (by decide +kernel)
    have g0 := gZ hX (by decide +kernel)
    conv => (arg 3; whnf)
    walk_at "st"; walk_at "st"
    refine jss_for bx (fun i s => ∃ o1 o2, s = ⟨[some (.d (frs xs)), some (.d (frs ys)), some (.d (frQ ((dots xs ys).take i).sum)), o1, o2], [], 0⟩) (ji_zipS g_zip ?_) (by intro _; rfl)
    walk_at "go"
    refine ⟨_, _, rfl, rfl, by rw [List.length_map, List.length_map, hl], ⟨_, _, rfl⟩, ?_, ?_⟩
    · rintro i v s' hi ⟨d, d2, hd, hd2, rfl⟩ ⟨o1, o2, rfl⟩
      rw [List.getElem?_map] at hd hd2
      have hi2 : i < xs.length := by simpa using hi
      have ex : xs[i]? = some xs[i] := List.getElem?_eq_getElem hi2
      have ey : ys[i]? = some (ys[i]'(by omega)) := List.getElem?_eq_getElem (by omega)
      generalize xs[i] = x at ex
      generalize ys[i]'(by omega) = y at ey
      rw [ex] at hd
      rw [ey] at hd2
      cases hd; cases hd2
      have hq := dots_get ex ey
      have bX := hx _ (List.mem_of_getElem? ex)
      have bY := hy _ (List.mem_of_getElem? ey)
      have hS := sum_QBk (dots_QB hx hy) i (by rw [dots_len hl]; omega)
      rw [sum_take hq]
      walk_at "go"
      · refine ap_op 250 250 bX bY (by decide) (by decide) (by decide) trivial ?_
        walk_at "go"
        refine ap_op (1 + 501 * i) 500 hS (bX.mul bY) (by omega) (by decide) (by omega) trivial ?_
        walk_at "go"
        exact ⟨_, _, rfl⟩
      all_goals
        rw [show x * y = 0 by first | exact z_l (by omega) | exact z_r (by omega), Rat.add_zero]
        exact ⟨_, _, rfl⟩
    · rintro s' ⟨o1, o2, rfl⟩
      rw [List.length_map, ← dots_len hl, List.take_length]
      walk_at "go"
      exact k
theorem ok_law_dot {f : Addr} {fd : FuncData} (C : Bs2 mg) (c_law_add : CaP P w K mg base "_law_add" 3 R_add) (c_law_mul : CaP P w K mg base "_law_mul" 3 R_mul) (Fu : Fun K "_law_dot" "_law_dot" s_law_dot f fd) : FnOk P w K mg base CX0 4 f fd ["row", "other"] (spP K R_dot) := by
  refine fn_P Fu sc_law_dot (fun ds post h => ?_) fun X F ds post hX hfn hH h => ?_
  · obtain ⟨_, _, rfl, _⟩ := h
    rfl
  · obtain ⟨xs, ys, rfl, hl, h10, hx, hy, k⟩ := h
    have bx := hX.bx
    have r0 := hX.nmR (i := 0) (x := "row") rfl (by first | exact Or.inl (by decide +kernel) | exact Or.inr (Or.inl (by decide +kernel))); have w0 := hX.nmW (i := 0) (x := "row") rfl (by decide +kernel); have r1 := hX.nmR (i := 1) (x := "other") rfl (by first | exact Or.inl (by decide +kernel) | exact Or.inr (Or.inl (by decide +kernel))); have w1 := hX.nmW (i := 1) (x := "other") rfl (by decide +kernel); have r2 := hX.nmR (i := 2) (x := "found") rfl (by first | exact Or.inl (by decide +kernel) | exact Or.inr (Or.inl (by decide +kernel))); have w2 := hX.nmW (i := 2) (x := "found") rfl (by decide +kernel); have r3 := hX.nmR (i := 3) (x := "k") rfl (by first | exact Or.inl (by decide +kernel) | exact Or.inr (Or.inl (by decide +kernel))); have w3 := hX.nmW (i := 3) (x := "k") rfl (by decide +kernel); have g_range := hX.glb (x := "range") (by decide +kernel) C.b_range; have g_len := hX.glb (x := "len") (by decide +kernel) C.b_len; have d_law_add := c_law_add.at hX (by decide +kernel); have d_law_mul := c_law_mul.at hX (by decide +kernel)
    conv => (arg 3; whnf)
    walk_at "st"
    refine JE.mono (Φ := fun v s1 => v = .d (frQ 0) ∧ s1 = ⟨[some (.d (frs xs)), some (.d (frs ys)), none, none], [], 0⟩) (by walk_at "go"; exact ⟨rfl, rfl⟩) ?_
    rintro _ _ ⟨rfl, rfl⟩
    refine jss_for bx (fun i s => ∃ o1, s = ⟨[some (.d (frs xs)), some (.d (frs ys)), some (.d (frQ ((dots xs ys).take i).sum)), o1], [], 0⟩) (ji_range1 g_range ?_) (by intro _; rfl)
    walk_at "go"
    have ln : ((xs.map frQ).map E.d).length = xs.length := by rw [List.length_map, List.length_map]
    refine ⟨by rw [ln]; omega, ⟨_, rfl⟩, ?_, ?_⟩
    · rintro i v s' hi he ⟨o1, rfl⟩
      obtain rfl : v = _ := he
      have hi2 : i < xs.length := by rw [ln] at hi; omega
      have ex : xs[i]? = some xs[i] := List.getElem?_eq_getElem hi2
      have ey : ys[i]? = some (ys[i]'(by omega)) := List.getElem?_eq_getElem (by omega)
      generalize xs[i] = x at ex
      generalize ys[i]'(by omega) = y at ey
      have hq := dots_get ex ey
      have bX := hx _ (List.mem_of_getElem? ex)
      have bY := hy _ (List.mem_of_getElem? ey)
      have hS := sum_QBk (dots_QB hx hy) i (by rw [dots_len hl]; omega)
      have l1 : atI ((xs.map frQ).map E.d) (i : Int) = some (.d (frQ x)) := L2.atI_nat (by rw [List.getElem?_map, List.getElem?_map, ex]; rfl)
      have l2 : atI ((ys.map frQ).map E.d) (i : Int) = some (.d (frQ y)) := L2.atI_nat (by rw [List.getElem?_map, List.getElem?_map, ey]; rfl)
      have zi : (0 : Int) + i = i := Int.zero_add _
      rw [zi, sum_take hq]
      walk_at "go"
      refine jx_seq rfl (.inl rfl) l1 ?_
      walk_at "go"
      · refine jx_seq rfl (.inl rfl) l2 ?_
        walk_at "go"
        · refine jx_seq rfl (.inl rfl) l1 ?_
          walk_at "go"
          refine jx_seq rfl (.inl rfl) l2 ?_
          walk_at "go"
          refine ap_op 250 250 bX bY (by decide) (by decide) (by decide) trivial ?_
          walk_at "go"
          refine ap_op (1 + 501 * i) 500 hS (bX.mul bY) (by omega) (by decide) (by omega) trivial ?_
          walk_at "go"
          exact ⟨_, rfl⟩
        · rw [show x * y = 0 by first | exact z_l (by omega) | exact z_r (by omega), Rat.add_zero]
          exact ⟨_, rfl⟩
      · rw [show x * y = 0 by first | exact z_l (by omega) | exact z_r (by omega), Rat.add_zero]
        exact ⟨_, rfl⟩
    · rintro s' ⟨o1, rfl⟩
      have e : ((((xs.map frQ).map E.d).length : Nat) : Int).toNat = (dots xs ys).length := by rw [dots_len hl, ln]; omega
      rw [e, List.take_length]
      walk_at "go"
      exact k
end
/-! the law's own rows -/
def R_fraction : RC1 := fun kd cds ds post => kd = .lst ∧ PoolD cds ∧ ds = [] ∧ ∀ (x : Rat) cds', QB 21 x → PoolD cds' → post (.dat (frQ x)) .lst cds'
theorem ap_fraction {cds : List D} {post : Rt → Kd → List D → Prop} (hp : PoolD cds) (h : ∀ (x : Rat) cds', QB 21 x → PoolD cds' → post (.dat (frQ x)) .lst cds') : R_fraction .lst cds [] post := ⟨rfl, hp, rfl, h⟩
theorem mo_fraction : MonoC R_fraction := fun kd cds ds p q m ⟨a, b, c, h⟩ => ⟨a, b, c, fun v r h1 h2 => m _ _ _ (h v r h1 h2)⟩
def R_row : RC1 := fun kd cds ds post => kd = .lst ∧ PoolD cds ∧ ∃ m : Int, ds = [.int m] ∧ 0 ≤ m ∧ m ≤ 6 ∧ ∀ (xs : List Rat) cds', xs.length = m.toNat → (∀ x ∈ xs, QB 21 x) → PoolD cds' → post (.new .lst (xs.map frQ)) .lst cds'
theorem ap_row {cds : List D} {m : Int} {post : Rt → Kd → List D → Prop} (hp : PoolD cds) (h0 : 0 ≤ m) (h1 : m ≤ 6) (h : ∀ (xs : List Rat) cds', xs.length = m.toNat → (∀ x ∈ xs, QB 21 x) → PoolD cds' → post (.new .lst (xs.map frQ)) .lst cds') : R_row .lst cds [.int m] post := ⟨rfl, hp, m, rfl, h0, h1, h⟩
theorem mo_row : MonoC R_row := fun kd cds ds p q m ⟨a, b, c, d, e, f, h⟩ => ⟨a, b, c, d, e, f, fun v r h1 h2 h3 => m _ _ _ (h v r h1 h2 h3)⟩
def minV (xs ys : List Rat) (f : Rat) : List Rat := List.zipWith (fun a b => a - f * b) xs ys
def R_minus : RP := fun ds post => ∃ (xs ys : List Rat) (f : Rat) (k l m : Nat), ds = [frs xs, frs ys, frQ f] ∧ xs.length = ys.length ∧ xs.length ≤ 6 ∧ (∀ x ∈ xs, QB k x) ∧ (∀ y ∈ ys, QB l y) ∧ QB m f ∧ 0 < k ∧ 0 < l ∧ 0 < m ∧ k + (l + m) + 2 ≤ 4000 ∧ post (.dat (frs (minV xs ys f)))
theorem ap_minus {xs ys : List Rat} {f : Rat} (k l m : Nat) {post : Rt → Prop} (h0 : xs.length = ys.length) (h1 : xs.length ≤ 6) (h2 : ∀ x ∈ xs, QB k x) (h3 : ∀ y ∈ ys, QB l y) (h4 : QB m f) (h5 : 0 < k) (h6 : 0 < l) (h7 : 0 < m) (h8 : k + (l + m) + 2 ≤ 4000) (h : post (.dat (frs (minV xs ys f)))) : R_minus [frs xs, frs ys, frQ f] post := ⟨xs, ys, f, k, l, m, rfl, h0, h1, h2, h3, h4, h5, h6, h7, h8, h⟩
theorem mo_minus : MonoP R_minus := fun ds p q m ⟨a, b, c, d, e, f, g, h1, h2, h3, h4, h5, h6, h7, h8, h9, h⟩ => ⟨a, b, c, d, e, f, g, h1, h2, h3, h4, h5, h6, h7, h8, h9, m _ h⟩
theorem minV_len {xs ys : List Rat} {f : Rat} (h : xs.length = ys.length) : (minV xs ys f).length = xs.length := by
  unfold minV; rw [List.length_zipWith]; omega
theorem minV_get {xs ys : List Rat} {f x y : Rat} {i : Nat} (h1 : xs[i]? = some x) (h2 : ys[i]? = some y) : (minV xs ys f)[i]? = some (x - f * y) := by
  unfold minV; rw [List.getElem?_zipWith, h1, h2]
theorem minV_QB {xs ys : List Rat} {f : Rat} {k l m : Nat} (h1 : ∀ x ∈ xs, QB k x) (h2 : ∀ y ∈ ys, QB l y) (hf : QB m f) : ∀ z ∈ minV xs ys f, QB (k + (m + l) + 1) z := by
  intro z hz
  unfold minV at hz
  obtain ⟨i, hi⟩ := List.getElem?_of_mem hz
  rw [List.getElem?_zipWith] at hi
  cases ex : xs[i]? with
  | none => rw [ex] at hi; cases hi
  | some x =>
    cases ey : ys[i]? with
    | none => rw [ex, ey] at hi; cases hi
    | some y =>
      rw [ex, ey] at hi
      cases hi
      exact (h1 x (List.mem_of_getElem? ex)).sub (hf.mul (h2 y (List.mem_of_getElem? ey)))
section
variable {P : Program} {w : World} {K : PySem.W.Frag} {mg : Str → Option Value} {base : Heap}
theorem ok_law_fraction {f : Addr} {fd : FuncData} (C : Bs2 mg) (c_law_draw : CaC P w K mg base "_law_draw" 3 R_draw) (c_law_ratio : CaP P w K mg base "_law_ratio" 2 R_ratQ) (Fu : Fun K "_law_fraction" "_law_fraction" s_law_fraction f fd) : FnOk P w K mg base CX0 4 f fd ["pool"] (spC K R_fraction) := by
  refine fn_C Fu sc_law_fraction (fun kd cds ds post h => ?_) fun X F kd cds ds post hX hfn hH h => ?_
  · obtain ⟨_, _, rfl, _⟩ := h
    rfl
  · obtain ⟨rfl, hp, rfl, k⟩ := h
    have bx := hX.bx
    have r0 := hX.nmR (i := 0) (x := "pool") rfl (by first | exact Or.inl (by decide +kernel) | exact Or.inr (Or.inl (by decide +kernel))); have w0 := hX.nmW (i := 0) (x := "pool") rfl (by decide +kernel); have r1 := hX.nmR (i := 1) (x := "way") rfl (by first | exact Or.inl (by decide +kernel) | exact Or.inr (Or.inl (by decide +kernel))); have w1 := hX.nmW (i := 1) (x := "way") rfl (by decide +kernel); have d_law_draw := c_law_draw.at hX (by decide +kernel); have d_law_ratio := c_law_ratio.at hX (by decide +kernel)
    conv => (arg 3; whnf)
    walk_at "go"
    refine ap_draw hp (lim_of (by decide) (by decide)) fun v cds1 v0 v1 hp1 => ?_
    refine rtΦ_dat ?_
    walk_at "go"
    · refine ap_draw hp1 (lim_of (by decide) (by decide)) fun a cds2 a0 a1 hp2 => ?_
      refine rtΦ_dat ?_
      walk_at "go"
      refine ⟨.lst, _, _, rfl, dsOf_map _, ?_⟩
      show post (.dat (.nd .tup [.int (a - 3), .int 1])) _ _
      rw [frQ_int]
      exact k _ _ (QB_int (by unfold Bd; omega) (by decide)) hp2
    · refine ap_draw hp1 (lim_of (by decide) (by decide)) fun a cds2 a0 a1 hp2 => ?_
      refine rtΦ_dat ?_
      walk_at "go"
      refine ap_draw hp2 (lim_of (by decide) (by decide)) fun b cds3 b0 b1 hp3 => ?_
      refine rtΦ_dat ?_
      walk_at "go"
      have q1 : Bd 21 (a - 6) := by unfold Bd; omega
      have q2 : Bd 21 (1 + b) := by unfold Bd; omega
      refine ap_ratQ (by omega) (q1.mono (by decide)) (q2.mono (by decide)) ?_
      refine rtX_P (rtΦ_dat ?_) rfl
      exact ⟨.lst, _, _, rfl, dsOf_map _, k _ _ (QB.div q1 q2 (by omega)) hp3⟩
    · refine ap_draw hp1 (lim_of (by decide) (by decide)) fun a cds2 a0 a1 hp2 => ?_
      refine rtΦ_dat ?_
      walk_at "go"
      refine ap_draw hp2 (lim_of (by decide) (by decide)) fun b cds3 b0 b1 hp3 => ?_
      refine rtΦ_dat ?_
      walk_at "go"
      have q1 : Bd 21 (a - 1000000) := by unfold Bd; omega
      have q2 : Bd 21 (1 + b) := by unfold Bd; omega
      refine ap_ratQ (by omega) (q1.mono (by decide)) (q2.mono (by decide)) ?_
      refine rtX_P (rtΦ_dat ?_) rfl
      exact ⟨.lst, _, _, rfl, dsOf_map _, k _ _ (QB.div q1 q2 (by omega)) hp3⟩
theorem ok_law_row {f : Addr} {fd : FuncData} (C : Bs2 mg) (c_law_fraction : CaC P w K mg base "_law_fraction" 4 R_fraction) (Fu : Fun K "_law_row" "_law_row" s_law_row f fd) : FnOk P w K mg base CX0 5 f fd ["pool", "count"] (spC K R_row) := by
  refine fn_C Fu sc_law_row (fun kd cds ds post h => ?_) fun X F kd cds ds post hX hfn hH h => ?_
  · obtain ⟨_, _, _, rfl, _⟩ := h
    rfl
  · obtain ⟨rfl, hp, m, rfl, m0, m1, k⟩ := h
    have bx := hX.bx
    have r0 := hX.nmR (i := 0) (x := "pool") rfl (by first | exact Or.inl (by decide +kernel) | exact Or.inr (Or.inl (by decide +kernel))); have w0 := hX.nmC (i := 0) (x := "pool") rfl (by decide +kernel) (hfn _); have r1 := hX.nmR (i := 1) (x := "count") rfl (by first | exact Or.inl (by decide +kernel) | exact Or.inr (Or.inl (by decide +kernel))); have w1 := hX.nmW (i := 1) (x := "count") rfl (by decide +kernel); have g_range := hX.glb (x := "range") (by decide +kernel) C.b_range
    conv => (arg 3; whnf)
    refine jss_ret (je_lcI bx (blk_ok hX (own := [("k", 2)]) (by decide +kernel)) (j := 2) (by decide) (fun Y hY => (hY.is hX).nmW rfl (by decide +kernel)) (ji_range1 g_range ?_) (by intro _; rfl))
    walk_at "go"
    refine ⟨by omega, by omega, fun j ds t => ∃ (cds : List D) (xs : List Rat), PoolD cds ∧ ds = xs.map frQ ∧ (∀ x ∈ xs, QB 21 x) ∧ t = ⟨[some (.r 0), some (.d (.int m)), none], [.nd .lst (cds.map .d)], 1⟩, ⟨cds, [], hp, rfl, fun x hx => (by cases hx), rfl⟩, ?_, ?_⟩
    · rintro j e ds t hj he hdl ⟨cds, xs, hp, rfl, hxs, rfl⟩
      refine ⟨rfl, rfl, fun Y hY => ?_⟩
      have hYX := hY.is hX; have bY := hYX.bx; have e_law_fraction := c_law_fraction.at hYX (by decide +kernel); have r0Y := hYX.nmR (i := 0) (x := "pool") rfl (by first | exact Or.inl (by decide +kernel) | exact Or.inr (Or.inl (by decide +kernel)) | exact Or.inr (Or.inr (by decide +kernel)))
      walk_at "go"
      refine ap_fraction hp fun z cds9 qz hp9 => ?_
      refine rtΦ_dat ?_
      refine ⟨_, ⟨[some (.r 0), some (.d (.int m)), none], [.nd .lst (cds9.map .d)], 1⟩, rfl, rfl, rfl, rfl, cds9, xs ++ [z], hp9, by simp, fun w hw => ?_, rfl⟩
      rcases List.mem_append.mp hw with hw | hw
      · exact hxs w hw
      · have : w = z := by simpa using hw
        rw [this]; exact qz
    · rintro ds t hdl ⟨cds, xs, hp, rfl, hxs, rfl⟩
      refine ⟨rfl, ?_⟩
      exact ⟨.lst, _, _, rfl, dsOf_map _, .lst, _, xs.map frQ, rfl, dsOf_map _, Nat.le_refl 1, k xs _ (by rw [List.length_map] at hdl; exact hdl) hxs hp⟩
theorem ok_law_minus {f : Addr} {fd : FuncData} (C : Bs2 mg) (c_law_sub : CaP P w K mg base "_law_sub" 3 R_less) (c_law_mul : CaP P w K mg base "_law_mul" 3 R_mul) (Fu : Fun K "_law_minus" "_law_minus" s_law_minus f fd) : FnOk P w K mg base CX0 4 f fd ["row", "other", "factor"] (spP K R_minus) := by
  refine fn_P Fu sc_law_minus (fun ds post h => ?_) fun X F ds post hX hfn hH h => ?_
  · obtain ⟨_, _, _, _, _, _, rfl, _⟩ := h
    rfl
  · obtain ⟨xs, ys, q, kk, l, m, rfl, h0, h1, h2, h3, h4, h5, h6, h7, h8, k⟩ := h
    have bx := hX.bx
    have r0 := hX.nmR (i := 0) (x := "row") rfl (by first | exact Or.inl (by decide +kernel) | exact Or.inr (Or.inl (by decide +kernel))); have w0 := hX.nmC (i := 0) (x := "row") rfl (by decide +kernel) (hfn _); have r1 := hX.nmR (i := 1) (x := "other") rfl (by first | exact Or.inl (by decide +kernel) | exact Or.inr (Or.inl (by decide +kernel))); have w1 := hX.nmC (i := 1) (x := "other") rfl (by decide +kernel) (hfn _); have r2 := hX.nmR (i := 2) (x := "factor") rfl (by first | exact Or.inl (by decide +kernel) | exact Or.inr (Or.inl (by decide +kernel))); have w2 := hX.nmC (i := 2) (x := "factor") rfl (by decide +kernel) (hfn _); have g_range := hX.glb (x := "range") (by decide +kernel) C.b_range; have g_len := hX.glb (x := "len") (by decide +kernel) C.b_len
    conv => (arg 3; whnf)
    have ln : ((xs.map frQ).map E.d).length = xs.length := by rw [List.length_map, List.length_map]
    refine jss_ret (je_lcP bx (blk_ok hX (own := [("k", 3)]) (by decide +kernel)) (j := 3) (by decide) (fun Y hY => (hY.is hX).nmW rfl (by decide +kernel)) (ji_range1 g_range ?_) (by intro _; rfl))
    walk_at "go"
    · rw [ln]; omega
    refine ⟨by rw [ln]; omega, fun i => frQ ((minV xs ys q).getD i 0), ?_, ?_⟩
    · rintro i v acc hi he Y hY
      obtain rfl : v = _ := he
      have hi2 : i < xs.length := by rw [ln] at hi; omega
      have ex : xs[i]? = some xs[i] := List.getElem?_eq_getElem hi2
      have ey : ys[i]? = some (ys[i]'(by omega)) := List.getElem?_eq_getElem (by omega)
      generalize xs[i] = x at ex
      generalize ys[i]'(by omega) = y at ey
      have l1 : L2.atI ((xs.map frQ).map E.d) (i : Int) = some (.d (frQ x)) := L2.atI_nat (by rw [List.getElem?_map, List.getElem?_map, ex]; rfl)
      have l2 : L2.atI ((ys.map frQ).map E.d) (i : Int) = some (.d (frQ y)) := L2.atI_nat (by rw [List.getElem?_map, List.getElem?_map, ey]; rfl)
      have hg : (minV xs ys q).getD i 0 = x - q * y := getD_at (minV_get ex ey)
      have qX := h2 _ (List.mem_of_getElem? ex)
      have qY := h3 _ (List.mem_of_getElem? ey)
      have zi : (0 : Int) + i = i := Int.zero_add _
      rw [zi]
      have hYX := hY.is hX; have bY := hYX.bx; have e_law_sub := c_law_sub.at hYX (by decide +kernel); have r0Y := hYX.nmR (i := 0) (x := "row") rfl (by first | exact Or.inl (by decide +kernel) | exact Or.inr (Or.inl (by decide +kernel)) | exact Or.inr (Or.inr (by decide +kernel))); have r3Y := hYX.nmR (i := 3) (x := "k") rfl (by first | exact Or.inl (by decide +kernel) | exact Or.inr (Or.inl (by decide +kernel)) | exact Or.inr (Or.inr (by decide +kernel))); have e_law_mul := c_law_mul.at hYX (by decide +kernel); have r2Y := hYX.nmR (i := 2) (x := "factor") rfl (by first | exact Or.inl (by decide +kernel) | exact Or.inr (Or.inl (by decide +kernel)) | exact Or.inr (Or.inr (by decide +kernel))); have r1Y := hYX.nmR (i := 1) (x := "other") rfl (by first | exact Or.inl (by decide +kernel) | exact Or.inr (Or.inl (by decide +kernel)) | exact Or.inr (Or.inr (by decide +kernel)))
      walk_at "go"
      refine jx_seq rfl (.inl rfl) l1 ?_
      walk_at "go"
      refine jx_seq rfl (.inl rfl) l2 ?_
      walk_at "go"
      refine ap_op m l h4 qY h7 h6 (by omega) trivial ?_
      walk_at "go"
      refine ap_op kk (m + l) qX (h4.mul qY) h5 (by omega) (by omega) trivial ?_
      walk_at "go"
      exact ⟨by show _ = E.d (frQ ((minV xs ys q).getD i 0)); rw [hg], rfl⟩
    · have e : (List.range (((xs.map frQ).map E.d).length : Int).toNat).map (fun i => frQ ((minV xs ys q).getD i 0)) = (minV xs ys q).map frQ := by
        rw [show ((((xs.map frQ).map E.d).length : Nat) : Int).toNat = (minV xs ys q).length by rw [minV_len h0, ln]; omega]
        exact range_getD frQ 0 (minV xs ys q)
      rw [e]
      exact k
end
/-! combinations of rows -/
abbrev matD (R : List (List Rat)) : D := .nd .lst (R.map frs)
structure MatOk (c : Nat) (R : List (List Rat)) : Prop where
  len : R.length ≤ 6
  cl : c ≤ 5
  ok : ∀ r ∈ R, r.length = c ∧ ∀ x ∈ r, QB 250 x
theorem foldl_take {α β : Type} {f : β → α → β} {b : β} {l : List α} {i : Nat} {a : α} (h : l[i]? = some a) : (l.take (i + 1)).foldl f b = f ((l.take i).foldl f b) a := by
  rw [← take_snoc h, List.foldl_append]; rfl
def stp (found r : List Rat) (f : Rat) : List Rat := List.zipWith (fun a b => a + f * b) found r
def comb (R : List (List Rat)) (fs : List Rat) (c i : Nat) : List Rat := ((R.zip fs).take i).foldl (fun a p => stp a p.1 p.2) (List.replicate c 0)
theorem comb_0 (R : List (List Rat)) (fs : List Rat) (c : Nat) : comb R fs c 0 = List.replicate c 0 := by unfold comb; rw [List.take_zero]; rfl
theorem comb_s {R : List (List Rat)} {fs : List Rat} {c i : Nat} {r : List Rat} {f : Rat} (h1 : R[i]? = some r) (h2 : fs[i]? = some f) : comb R fs c (i + 1) = stp (comb R fs c i) r f := by
  have h : (R.zip fs)[i]? = some (r, f) := by
    rw [List.getElem?_zip_eq_some]; exact ⟨h1, h2⟩
  unfold comb
  exact foldl_take h
theorem stp_len {found r : List Rat} {f : Rat} (h : found.length = r.length) : (stp found r f).length = found.length := by
  unfold stp; rw [List.length_zipWith]; omega
theorem stp_QB {xs ys : List Rat} {f : Rat} {k l m : Nat} (h1 : ∀ x ∈ xs, QB k x) (h2 : ∀ y ∈ ys, QB l y) (hf : QB m f) : ∀ z ∈ stp xs ys f, QB (k + (m + l) + 1) z := by
  intro z hz
  unfold stp at hz
  obtain ⟨i, hi⟩ := List.getElem?_of_mem hz
  rw [List.getElem?_zipWith] at hi
  cases ex : xs[i]? with
  | none => rw [ex] at hi; cases hi
  | some x =>
    cases ey : ys[i]? with
    | none => rw [ex, ey] at hi; cases hi
    | some y =>
      rw [ex, ey] at hi
      cases hi
      exact (h1 x (List.mem_of_getElem? ex)).add (hf.mul (h2 y (List.mem_of_getElem? ey)))
theorem stp_0 {found r : List Rat} (h : found.length = r.length) : stp found r 0 = found := by
  unfold stp
  apply List.ext_getElem?
  intro i
  rw [List.getElem?_zipWith]
  cases ex : found[i]? with
  | none => rfl
  | some x =>
    have hi := (List.getElem?_eq_some_iff.mp ex).1
    rw [List.getElem?_eq_getElem (show i < r.length by omega)]
    show some (x + 0 * _) = some x
    rw [Rat.zero_mul, Rat.add_zero]
theorem minV_stp (found r : List Rat) (f : Rat) : minV found r (0 - f) = stp found r f := by
  unfold minV stp
  congr 1
  funext a b
  grind
theorem stp_get {xs ys : List Rat} {f x y : Rat} {i : Nat} (h1 : xs[i]? = some x) (h2 : ys[i]? = some y) : (stp xs ys f)[i]? = some (x + f * y) := by
  unfold stp; rw [List.getElem?_zipWith, h1, h2]
theorem MatOk.comb {c : Nat} {R : List (List Rat)} {fs : List Rat} (h : MatOk c R) (hl : fs.length = R.length) (hf : ∀ f ∈ fs, QB 45 f) : ∀ i, i ≤ R.length → (comb R fs c i).length = c ∧ ∀ x ∈ comb R fs c i, QB (1 + 298 * i) x
  | 0, _ => by
    rw [comb_0]
    exact ⟨List.length_replicate, fun x hx => by
      rw [List.eq_of_mem_replicate hx]; exact QB_0 (by decide)⟩
  | i + 1, hi => by
    obtain ⟨h1, h2⟩ := h.comb hl hf i (by omega)
    have e1 : R[i]? = some R[i] := List.getElem?_eq_getElem (by omega)
    have e2 : fs[i]? = some (fs[i]'(by omega)) := List.getElem?_eq_getElem (by omega)
    obtain ⟨h3, h4⟩ := h.ok _ (List.mem_of_getElem? e1)
    rw [comb_s e1 e2]
    exact ⟨by rw [stp_len (by rw [h1, h3]), h1], fun x hx => (stp_QB h2 h4 (hf _ (List.mem_of_getElem? e2)) x hx).mono (by omega)⟩
def R_comb : RP := fun ds post => ∃ (R : List (List Rat)) (fs : List Rat) (c : Nat), ds = [matD R, frs fs, .int c] ∧ MatOk c R ∧ fs.length = R.length ∧ (∀ f ∈ fs, QB 45 f) ∧ post (.dat (frs (comb R fs c R.length)))
theorem ap_comb {R : List (List Rat)} {fs : List Rat} {c : Nat} {post : Rt → Prop} (h : MatOk c R) (hl : fs.length = R.length) (hf : ∀ f ∈ fs, QB 45 f) (q : post (.dat (frs (comb R fs c R.length)))) : R_comb [matD R, frs fs, .int c] post := ⟨R, fs, c, rfl, h, hl, hf, q⟩
theorem mo_comb : MonoP R_comb := fun ds p q m ⟨a, b, c, d, e, f, g, h⟩ => ⟨a, b, c, d, e, f, g, m _ h⟩
/-- .. the rows owned -/
def R_comb1 : RC1 := fun kd cds ds post => kd = .lst ∧ ∃ (R : List (List Rat)) (fs : List Rat) (c : Nat), cds = R.map frs ∧ ds = [frs fs, .int c] ∧ MatOk c R ∧ fs.length = R.length ∧ (∀ f ∈ fs, QB 45 f) ∧ post (.dat (frs (comb R fs c R.length))) .lst (R.map frs)
theorem ap_comb1 {R : List (List Rat)} {fs : List Rat} {c : Nat} {post : Rt → Kd → List D → Prop} (h : MatOk c R) (hl : fs.length = R.length) (hf : ∀ f ∈ fs, QB 45 f) (q : post (.dat (frs (comb R fs c R.length))) .lst (R.map frs)) : R_comb1 .lst (R.map frs) [frs fs, .int c] post := ⟨rfl, R, fs, c, rfl, rfl, h, hl, hf, q⟩
theorem mo_comb1 : MonoC R_comb1 := fun kd cds ds p q m ⟨x, a, b, c, d, y, e, f, g, h⟩ => ⟨x, a, b, c, d, y, e, f, g, m _ _ _ h⟩
theorem zeros_eq (c : Nat) : (List.range c).map (fun _ => frQ 0) = (List.replicate c (0 : Rat)).map frQ := by
  rw [List.map_const', List.length_range, List.map_replicate]
section
variable {P : Program} {w : World} {K : PySem.W.Frag} {mg : Str → Option Value} {base : Heap}
theorem ok_combined {f : Addr} {fd : FuncData} (C : Bs2 mg) (gZ : ZeroOk P w K mg base) (c_added : CaP P w K mg base "added" 3 R_add) (c_times : CaP P w K mg base "times" 3 R_mul) (Fu : Fun K "combined" "combined" s_combined f fd) : FnOk P w K mg base CX0 4 f fd ["rows", "factors", "count"] (spP K R_comb) := by
  refine fn_P Fu sc_combined (fun ds post h => ?_) fun X F ds post hX hfn hH h => ?_
  · obtain ⟨_, _, _, rfl, _⟩ := h
    rfl
  · obtain ⟨R, fs, c, rfl, h, hl, hf, k⟩ := h
    have bx := hX.bx
    have r0 := hX.nmR (i := 0) (x := "rows") rfl (by first | exact Or.inl (by decide +kernel) | exact Or.inr (Or.inl (by decide +kernel))); have w0 := hX.nmW (i := 0) (x := "rows") rfl (by decide +kernel); have r1 := hX.nmR (i := 1) (x := "factors") rfl (by first | exact Or.inl (by decide +kernel) | exact Or.inr (Or.inl (by decide +kernel))); have w1 := hX.nmW (i := 1) (x := "factors") rfl (by decide +kernel); have r2 := hX.nmR (i := 2) (x := "count") rfl (by first | exact Or.inl (by decide +kernel) | exact Or.inr (Or.inl (by decide +kernel))); have w2 := hX.nmW (i := 2) (x := "count") rfl (by decide +kernel); have r3 := hX.nmR (i := 3) (x := "found") rfl (by first | exact Or.inl (by decide +kernel) | exact Or.inr (Or.inl (by decide +kernel))); have w3 := hX.nmW (i := 3) (x := "found") rfl (by decide +kernel); have r4 := hX.nmR (i := 4) (x := "row") rfl (by first | exact Or.inl (by decide +kernel) | exact Or.inr (Or.inl (by decide +kernel))); have w4 := hX.nmW (i := 4) (x := "row") rfl (by decide +kernel); have r5 := hX.nmR (i := 5) (x := "factor") rfl (by first | exact Or.inl (by decide +kernel) | exact Or.inr (Or.inl (by decide +kernel))); have w5 := hX.nmC (i := 5) (x := "factor") rfl (by decide +kernel) (hfn _); have g_range := hX.glb (x := "range") (by decide +kernel) C.b_range; have g_zip := hX.glb (x := "zip") (by decide +kernel) C.b_zip
    conv => (arg 3; whnf)
    have hR5 := h.len
    have hc5 := h.cl
    refine jss_cons (js_setLcP bx w3 (hX.loc (by decide +kernel)) (by rw [env_eq hX.eS]; rfl) (blk_ok hX (own := [("column", 6)]) (by decide +kernel)) (j := 6) (by decide) (fun Y hY => (hY.is hX).nmW rfl (by decide +kernel)) (ji_range1 g_range ?_) (by intro _; rfl))
    walk_at "go"
    · omega
    refine ⟨by omega, fun _ => frQ 0, ?_, ?_⟩
    · rintro i v acc hi he Y hY
      have hYX := hY.is hX
      have g0 := gZ hYX (by decide +kernel)
      walk_at "go"
      exact ⟨rfl, rfl⟩
    rw [show ((c : Nat) : Int).toNat = c from rfl, zeros_eq, ← comb_0 R fs c]
    refine jss_for bx (fun i s => ∃ o4 o5, s = ⟨[some (.d (matD R)), some (.d (frs fs)), some (.d (.int c)), some (.d (frs (comb R fs c i))), o4, o5, none, none, none], [], 0⟩) (ji_zipS g_zip ?_) (by intro _; rfl)
    walk_at "go"
    refine ⟨_, _, rfl, rfl, by rw [List.length_map, List.length_map, hl], ⟨_, _, rfl⟩, ?_, ?_⟩
    · rintro i v s' hi ⟨d, d2, hd, hd2, rfl⟩ ⟨o4, o5, rfl⟩
      rw [List.getElem?_map] at hd hd2
      have hi2 : i < R.length := by simpa using hi
      have e1 : R[i]? = some R[i] := List.getElem?_eq_getElem hi2
      have e2 : fs[i]? = some (fs[i]'(by omega)) := List.getElem?_eq_getElem (by omega)
      generalize R[i] = r at e1
      generalize fs[i]'(by omega) = g at e2
      rw [e1] at hd
      rw [e2] at hd2
      cases hd; cases hd2
      obtain ⟨h3, h4⟩ := h.ok _ (List.mem_of_getElem? e1)
      obtain ⟨h1, h2⟩ := h.comb hl hf i (by omega)
      have hg := hf _ (List.mem_of_getElem? e2)
      rw [comb_s e1 e2]
      generalize comb R fs c i = fo at h1 h2
      walk_at "go"
      · refine jss_cons (js_setLcZ bx w3 (hX.loc (by decide +kernel)) (by rw [env_eq hX.eS]; rfl) (blk_ok hX (own := [("one", 7), ("two", 8)]) (by decide +kernel)) (j1 := 7) (j2 := 8) (by decide) (by decide) (fun Y hY => (hY.is hX).nmW rfl (by decide +kernel)) (fun Y hY => (hY.is hX).nmW rfl (by decide +kernel)) (ji_zipS g_zip ?_) (by intro _; rfl))
        walk_at "go"
        refine ⟨_, _, rfl, rfl, by rw [List.length_map, List.length_map, h1, h3], rfl, by rw [List.length_map]; omega, _, _, fun i => frQ ((stp fo r g).getD i 0), rfl, ?_, ?_⟩
        · rintro t d1 d2 acc ht hd1 hd2 Y hY
          rw [List.getElem?_map] at hd1 hd2
          cases ex : fo[t]? with
          | none => rw [ex] at hd1; cases hd1
          | some x =>
            cases ey : r[t]? with
            | none => rw [ey] at hd2; cases hd2
            | some y =>
              rw [ex] at hd1
              rw [ey] at hd2
              cases hd1; cases hd2
              have hgd : (stp fo r g).getD t 0 = x + g * y := getD_at (stp_get ex ey)
              have qX := h2 _ (List.mem_of_getElem? ex)
              have qY := h4 _ (List.mem_of_getElem? ey)
              have hYX := hY.is hX; have bY := hYX.bx; have e_added := c_added.at hYX (by decide +kernel); have r7Y := hYX.nmR (i := 7) (x := "one") rfl (by first | exact Or.inl (by decide +kernel) | exact Or.inr (Or.inl (by decide +kernel)) | exact Or.inr (Or.inr (by decide +kernel))); have e_times := c_times.at hYX (by decide +kernel); have r5Y := hYX.nmR (i := 5) (x := "factor") rfl (by first | exact Or.inl (by decide +kernel) | exact Or.inr (Or.inl (by decide +kernel)) | exact Or.inr (Or.inr (by decide +kernel))); have r8Y := hYX.nmR (i := 8) (x := "two") rfl (by first | exact Or.inl (by decide +kernel) | exact Or.inr (Or.inl (by decide +kernel)) | exact Or.inr (Or.inr (by decide +kernel)))
              walk_at "go"
              refine ap_op 45 250 hg qY (by decide) (by decide) (by decide) trivial ?_
              walk_at "go"
              refine ap_op (1 + 298 * i) 295 qX (hg.mul qY) (by omega) (by decide) (by omega) trivial ?_
              walk_at "go"
              exact ⟨by show _ = E.d (frQ ((stp fo r g).getD t 0)); rw [hgd], rfl⟩
        · have e : (List.range (fo.map frQ).length).map (fun i => frQ ((stp fo r g).getD i 0)) = (stp fo r g).map frQ := by
            rw [List.length_map, ← stp_len (f := g) (show fo.length = r.length by rw [h1, h3])]
            exact range_getD frQ 0 (stp fo r g)
          dsimp only
          rw [e]
          walk_at "go"
          exact ⟨_, _, rfl⟩
      · rename_i hb
        rw [Rat.num_eq_zero.mp (show g.num = 0 by omega), stp_0 (by rw [h1, h3])]
        exact ⟨_, _, rfl⟩
    · rintro s' ⟨o4, o5, rfl⟩
      rw [List.length_map]
      walk_at "go"
      exact k
theorem ok_law_combined {f : Addr} {fd : FuncData} (C : Bs2 mg) (c_law_minus : CaP P w K mg base "_law_minus" 4 R_minus) (c_law_sub : CaP P w K mg base "_law_sub" 3 R_less) (Fu : Fun K "_law_combined" "_law_combined" s_law_combined f fd) : FnOk P w K mg base CX0 5 f fd ["rows", "factors", "count"] (spP K R_comb) := by
  refine fn_P Fu sc_law_combined (fun ds post h => ?_) fun X F ds post hX hfn hH h => ?_
  · obtain ⟨_, _, _, rfl, _⟩ := h
    rfl
  · obtain ⟨R, fs, c, rfl, h, hl, hf, k⟩ := h
    have bx := hX.bx
    have r0 := hX.nmR (i := 0) (x := "rows") rfl (by first | exact Or.inl (by decide +kernel) | exact Or.inr (Or.inl (by decide +kernel))); have w0 := hX.nmW (i := 0) (x := "rows") rfl (by decide +kernel); have r1 := hX.nmR (i := 1) (x := "factors") rfl (by first | exact Or.inl (by decide +kernel) | exact Or.inr (Or.inl (by decide +kernel))); have w1 := hX.nmW (i := 1) (x := "factors") rfl (by decide +kernel); have r2 := hX.nmR (i := 2) (x := "count") rfl (by first | exact Or.inl (by decide +kernel) | exact Or.inr (Or.inl (by decide +kernel))); have w2 := hX.nmW (i := 2) (x := "count") rfl (by decide +kernel); have r3 := hX.nmR (i := 3) (x := "found") rfl (by first | exact Or.inl (by decide +kernel) | exact Or.inr (Or.inl (by decide +kernel))); have w3 := hX.nmW (i := 3) (x := "found") rfl (by decide +kernel); have r4 := hX.nmR (i := 4) (x := "at") rfl (by first | exact Or.inl (by decide +kernel) | exact Or.inr (Or.inl (by decide +kernel))); have w4 := hX.nmW (i := 4) (x := "at") rfl (by decide +kernel); have g_range := hX.glb (x := "range") (by decide +kernel) C.b_range; have g_len := hX.glb (x := "len") (by decide +kernel) C.b_len; have d_law_minus := c_law_minus.at hX (by decide +kernel); have d_law_sub := c_law_sub.at hX (by decide +kernel)
    conv => (arg 3; whnf)
    have hR5 := h.len
    have hc5 := h.cl
    refine jss_cons (js_setLcP bx w3 (hX.loc (by decide +kernel)) (by rw [env_eq hX.eS]; rfl) (blk_ok hX (own := [("k", 5)]) (by decide +kernel)) (j := 5) (by decide) (fun Y hY => (hY.is hX).nmW rfl (by decide +kernel)) (ji_range1 g_range ?_) (by intro _; rfl))
    walk_at "go"
    · omega
    refine ⟨by omega, fun _ => frQ 0, ?_, ?_⟩
    · rintro i v acc hi he Y hY
      have hYX := hY.is hX
      walk_at "go"
      exact ⟨rfl, rfl⟩
    rw [show ((c : Nat) : Int).toNat = c from rfl, zeros_eq, ← comb_0 R fs c]
    have ln : ((R.map frs).map E.d).length = R.length := by rw [List.length_map, List.length_map]
    refine jss_for bx (fun i s => ∃ o4, s = ⟨[some (.d (matD R)), some (.d (frs fs)), some (.d (.int c)), some (.d (frs (comb R fs c i))), o4, none], [], 0⟩) (ji_range1 g_range ?_) (by intro _; rfl)
    walk_at "go"
    refine ⟨by rw [ln]; omega, ⟨_, rfl⟩, ?_, ?_⟩
    · rintro i v s' hi he ⟨o4, rfl⟩
      obtain rfl : v = _ := he
      have hi2 : i < R.length := by rw [ln] at hi; omega
      have e1 : R[i]? = some R[i] := List.getElem?_eq_getElem hi2
      have e2 : fs[i]? = some (fs[i]'(by omega)) := List.getElem?_eq_getElem (by omega)
      generalize R[i] = r at e1
      generalize fs[i]'(by omega) = g at e2
      obtain ⟨h3, h4⟩ := h.ok _ (List.mem_of_getElem? e1)
      obtain ⟨h1, h2⟩ := h.comb hl hf i (by omega)
      have hg := hf _ (List.mem_of_getElem? e2)
      have l1 : L2.atI ((R.map frs).map E.d) (i : Int) = some (.d (frs r)) := L2.atI_nat (by rw [List.getElem?_map, List.getElem?_map, e1]; rfl)
      have l2 : L2.atI ((fs.map frQ).map E.d) (i : Int) = some (.d (frQ g)) := L2.atI_nat (by rw [List.getElem?_map, List.getElem?_map, e2]; rfl)
      have zi : (0 : Int) + i = i := Int.zero_add _
      rw [zi, comb_s e1 e2]
      generalize comb R fs c i = fo at h1 h2
      walk_at "go"
      refine jx_seq rfl (.inl rfl) l1 ?_
      walk_at "go"
      refine jx_seq rfl (.inl rfl) l2 ?_
      walk_at "go"
      show R_less [frQ 0, frQ g] _
      refine ap_op 1 45 (QB_0 (by decide)) hg (by decide) (by decide) (by decide) trivial ?_
      walk_at "go"
      refine ap_minus (1 + 298 * i) 250 47 (by rw [h1, h3]) (by omega) h2 h4 ((QB_0 (by decide)).sub hg) (by omega) (by decide) (by decide) (by omega) ?_
      rw [minV_stp]
      walk_at "go"
      exact ⟨_, rfl⟩
    · rintro s' ⟨o4, rfl⟩
      rw [show ((((R.map frs).map E.d).length : Nat) : Int).toNat = R.length by rw [ln]; omega]
      walk_at "go"
      exact k
theorem ok_law_combined1 {f : Addr} {fd : FuncData} (C : Bs2 mg) (c_law_minus : CaP P w K mg base "_law_minus" 4 R_minus) (c_law_sub : CaP P w K mg base "_law_sub" 3 R_less) (Fu : Fun K "_law_combined" "_law_combined" s_law_combined f fd) : FnOk P w K mg base CX0 5 f fd ["rows", "factors", "count"] (spC K R_comb1) := by
  refine fn_C Fu sc_law_combined (fun kd cds ds post h => ?_) fun X F kd cds ds post hX hfn hH h => ?_
  · obtain ⟨_, _, _, _, _, rfl, _⟩ := h
    rfl
  · obtain ⟨rfl, R, fs, c, rfl, rfl, h, hl, hf, k⟩ := h
    have bx := hX.bx
    have r0 := hX.nmR (i := 0) (x := "rows") rfl (by first | exact Or.inl (by decide +kernel) | exact Or.inr (Or.inl (by decide +kernel))); have w0 := hX.nmW (i := 0) (x := "rows") rfl (by decide +kernel); have r1 := hX.nmR (i := 1) (x := "factors") rfl (by first | exact Or.inl (by decide +kernel) | exact Or.inr (Or.inl (by decide +kernel))); have w1 := hX.nmW (i := 1) (x := "factors") rfl (by decide +kernel); have r2 := hX.nmR (i := 2) (x := "count") rfl (by first | exact Or.inl (by decide +kernel) | exact Or.inr (Or.inl (by decide +kernel))); have w2 := hX.nmW (i := 2) (x := "count") rfl (by decide +kernel); have r3 := hX.nmR (i := 3) (x := "found") rfl (by first | exact Or.inl (by decide +kernel) | exact Or.inr (Or.inl (by decide +kernel))); have w3 := hX.nmW (i := 3) (x := "found") rfl (by decide +kernel); have r4 := hX.nmR (i := 4) (x := "at") rfl (by first | exact Or.inl (by decide +kernel) | exact Or.inr (Or.inl (by decide +kernel))); have w4 := hX.nmW (i := 4) (x := "at") rfl (by decide +kernel); have g_range := hX.glb (x := "range") (by decide +kernel) C.b_range; have g_len := hX.glb (x := "len") (by decide +kernel) C.b_len; have d_law_minus := c_law_minus.at hX (by decide +kernel); have d_law_sub := c_law_sub.at hX (by decide +kernel)
    conv => (arg 3; whnf)
    have hR5 := h.len
    have hc5 := h.cl
    refine jss_cons (js_setLcP bx w3 (hX.loc (by decide +kernel)) (by rw [env_eq hX.eS]; rfl) (blk_ok hX (own := [("k", 5)]) (by decide +kernel)) (j := 5) (by decide) (fun Y hY => (hY.is hX).nmW rfl (by decide +kernel)) (ji_range1 g_range ?_) (by intro _; rfl))
    walk_at "go"
    · omega
    refine ⟨by omega, fun _ => frQ 0, ?_, ?_⟩
    · rintro i v acc hi he Y hY
      have hYX := hY.is hX
      walk_at "go"
      exact ⟨rfl, rfl⟩
    rw [show ((c : Nat) : Int).toNat = c from rfl, zeros_eq, ← comb_0 R fs c]
    have ln : ((R.map frs).map E.d).length = R.length := by rw [List.length_map, List.length_map]
    refine jss_for bx (fun i s => ∃ o4, s = ⟨[some (.r 0), some (.d (frs fs)), some (.d (.int c)), some (.d (frs (comb R fs c i))), o4, none], [.nd .lst ((R.map frs).map .d)], 1⟩) (ji_range1 g_range ?_) (by intro _; rfl)
    walk_at "go"
    refine ⟨by rw [ln]; omega, ⟨_, rfl⟩, ?_, ?_⟩
    · rintro i v s' hi he ⟨o4, rfl⟩
      obtain rfl : v = _ := he
      have hi2 : i < R.length := by rw [ln] at hi; omega
      have e1 : R[i]? = some R[i] := List.getElem?_eq_getElem hi2
      have e2 : fs[i]? = some (fs[i]'(by omega)) := List.getElem?_eq_getElem (by omega)
      generalize R[i] = r at e1
      generalize fs[i]'(by omega) = g at e2
      obtain ⟨h3, h4⟩ := h.ok _ (List.mem_of_getElem? e1)
      obtain ⟨h1, h2⟩ := h.comb hl hf i (by omega)
      have hg := hf _ (List.mem_of_getElem? e2)
      have l1 : L2.atI ((R.map frs).map E.d) (i : Int) = some (.d (frs r)) := L2.atI_nat (by rw [List.getElem?_map, List.getElem?_map, e1]; rfl)
      have l2 : L2.atI ((fs.map frQ).map E.d) (i : Int) = some (.d (frQ g)) := L2.atI_nat (by rw [List.getElem?_map, List.getElem?_map, e2]; rfl)
      have zi : (0 : Int) + i = i := Int.zero_add _
      rw [zi, comb_s e1 e2]
      generalize comb R fs c i = fo at h1 h2
      walk_at "go"
      refine jx_seq rfl (.inl rfl) l1 ?_
      walk_at "go"
      refine jx_seq rfl (.inl rfl) l2 ?_
      walk_at "go"
      show R_less [frQ 0, frQ g] _
      refine ap_op 1 45 (QB_0 (by decide)) hg (by decide) (by decide) (by decide) trivial ?_
      walk_at "go"
      refine ap_minus (1 + 298 * i) 250 47 (by rw [h1, h3]) (by omega) h2 h4 ((QB_0 (by decide)).sub hg) (by omega) (by decide) (by decide) (by omega) ?_
      rw [minV_stp]
      walk_at "go"
      exact ⟨_, rfl⟩
    · rintro s' ⟨o4, rfl⟩
      rw [show ((((R.map frs).map E.d).length : Nat) : Int).toNat = R.length by rw [ln]; omega]
      walk_at "go"
      exact ⟨.lst, _, R.map frs, rfl, dsOf_map _, k⟩
end
/-! programs of rows -/
abbrev sJ : Str := "just"
abbrev sM : Str := "most"
structure Rw where
  r : List Rat
  s : Str
  b : Rat
abbrev rwD (q : Rw) : D := .nd .tup [frs q.r, .str q.s, frQ q.b]
abbrev rwsD (qs : List Rw) : D := .nd .lst (qs.map rwD)
abbrev bls (bs : List Bool) : D := .nd .lst (bs.map D.bl)
structure RwOk (c B : Nat) (q : Rw) : Prop where
  l : q.r.length = c
  rq : ∀ x ∈ q.r, QB 250 x
  b : QB B q.b
  s : q.s = sJ ∨ q.s = sM
structure PrOk (B c : Nat) (rows : List Rw) (free : List Bool) : Prop where
  rl : rows.length ≤ 6
  cl : c ≤ 5
  fl : free.length = c
  rw : ∀ q ∈ rows, RwOk c B q
def flagV (free : List Bool) (x : List Rat) : Bool := (free.zip x).all fun p => p.1 || decide (0 ≤ p.2)
def rowV (x : List Rat) (q : Rw) : Bool := decide ((dots q.r x).sum ≤ q.b) && (!decide (q.s = sJ) || decide ((dots q.r x).sum = q.b))
def lawV (rows : List Rw) (free : List Bool) (x : List Rat) : Bool := flagV free x && rows.all (rowV x)
theorem all_no {α : Type} {p : α → Bool} {l : List α} {i : Nat} {a : α} (h : l[i]? = some a) (hp : p a = false) : l.all p = false := by
  rw [List.all_eq_false]; exact ⟨a, List.mem_of_getElem? h, by simp [hp]⟩
theorem all_nx {α : Type} {p : α → Bool} {l : List α} {i : Nat} {a : α} (h0 : (l.take i).all p = true) (h : l[i]? = some a) (hp : p a = true) : (l.take (i + 1)).all p = true := by
  rw [← take_snoc h, List.all_append, h0]; simp [hp]
theorem zip_get {α β : Type} {l : List α} {m : List β} {i : Nat} {a : α} {b : β} (h1 : l[i]? = some a) (h2 : m[i]? = some b) : (l.zip m)[i]? = some (a, b) := by
  rw [List.getElem?_zip_eq_some]; exact ⟨h1, h2⟩
theorem dots_QBk {xs ys : List Rat} {k l : Nat} (h1 : ∀ x ∈ xs, QB k x) (h2 : ∀ y ∈ ys, QB l y) : ∀ z ∈ dots xs ys, QB (k + l) z := by
  intro z hz
  unfold dots at hz
  obtain ⟨i, hi⟩ := List.getElem?_of_mem hz
  rw [List.getElem?_zipWith] at hi
  cases ex : xs[i]? with
  | none => rw [ex] at hi; cases hi
  | some x =>
    cases ey : ys[i]? with
    | none => rw [ex, ey] at hi; cases hi
    | some y =>
      rw [ex, ey] at hi
      cases hi
      exact (h1 x (List.mem_of_getElem? ex)).mul (h2 y (List.mem_of_getElem? ey))
theorem rnum_pos {x : Rat} : 0 < x ↔ 0 < x.num := by
  rw [Rat.lt_iff]
  show (0 : Int) * x.den < x.num * ((1 : Nat) : Int) ↔ _
  omega
theorem sg_lt {x : Rat} : sgI x < 0 ↔ ¬ 0 ≤ x := by
  unfold sgI
  rw [← Rat.num_nonneg]
  by_cases h : x.num = 0
  · rw [if_pos h]; omega
  · rw [if_neg h]
    by_cases h2 : 0 < x.num
    · rw [if_pos h2]; omega
    · rw [if_neg h2]; omega
theorem sg_gt {x : Rat} : 0 < sgI x ↔ 0 < x := by
  unfold sgI
  rw [rnum_pos]
  by_cases h : x.num = 0
  · rw [if_pos h]; omega
  · rw [if_neg h]
    by_cases h2 : 0 < x.num
    · rw [if_pos h2]; omega
    · rw [if_neg h2]; omega
theorem sg_z {x : Rat} : sgI x = 0 ↔ x = 0 := by
  unfold sgI
  rw [← Rat.num_eq_zero]
  by_cases h : x.num = 0
  · rw [if_pos h]; omega
  · rw [if_neg h]
    by_cases h2 : 0 < x.num
    · rw [if_pos h2]; omega
    · rw [if_neg h2]; omega
theorem dot_QB {xs ys : List Rat} {k l : Nat} (h : xs.length ≤ 5) (hl : xs.length = ys.length) (h1 : ∀ x ∈ xs, QB k x) (h2 : ∀ y ∈ ys, QB l y) : QB (1 + (k + l + 1) * 5) (dots xs ys).sum := by
  have h3 := sum_QBk (dots_QBk h1 h2) (dots xs ys).length (Nat.le_refl _)
  rw [List.take_length, dots_len hl] at h3
  exact h3.mono (Nat.add_le_add_left (Nat.mul_le_mul_left _ h) _)
def R_islaw : RP := fun ds post => ∃ (rows : List Rw) (free : List Bool) (x : List Rat) (c : Nat), ds = [rwsD rows, bls free, frs x] ∧ PrOk 1000 c rows free ∧ x.length ≤ 6 ∧ (∀ a ∈ x, QB 45 a) ∧ post (.dat (.bl (decide (x.length = c) && lawV rows free x)))
theorem ap_islaw {rows : List Rw} {free : List Bool} {x : List Rat} {c : Nat} {post : Rt → Prop} (h : PrOk 1000 c rows free) (hl : x.length ≤ 6) (hx : ∀ a ∈ x, QB 45 a) (q : post (.dat (.bl (decide (x.length = c) && lawV rows free x)))) : R_islaw [rwsD rows, bls free, frs x] post := ⟨rows, free, x, c, rfl, h, hl, hx, q⟩
theorem mo_islaw : MonoP R_islaw := fun ds p q m ⟨a, b, c, d, e, f, g, i, h⟩ => ⟨a, b, c, d, e, f, g, i, m _ h⟩
section
variable {P : Program} {w : World} {K : PySem.W.Frag} {mg : Str → Option Value} {base : Heap}
theorem ok_is_lawful {f : Addr} {fd : FuncData} (C : Bs2 mg) (c_dot : CaP P w K mg base "dot" 4 R_dot) (c_sign : CaP P w K mg base "sign" 1 R_sign) (c_below : CaP P w K mg base "below" 1 R_below) (Fu : Fun K "is_lawful" "is_lawful" s_is_lawful f fd) : FnOk P w K mg base CX0 5 f fd ["rows", "free", "x"] (spP K R_islaw) := by
  refine fn_P Fu sc_is_lawful (fun ds post h => ?_) fun X F ds post hX hfn hH h => ?_
  · obtain ⟨_, _, _, _, rfl, _⟩ := h
    rfl
  · obtain ⟨rows, free, x, c, rfl, h, hl, hx, k⟩ := h
    have bx := hX.bx
    have r0 := hX.nmR (i := 0) (x := "rows") rfl (by first | exact Or.inl (by decide +kernel) | exact Or.inr (Or.inl (by decide +kernel))); have w0 := hX.nmW (i := 0) (x := "rows") rfl (by decide +kernel); have r1 := hX.nmR (i := 1) (x := "free") rfl (by first | exact Or.inl (by decide +kernel) | exact Or.inr (Or.inl (by decide +kernel))); have w1 := hX.nmW (i := 1) (x := "free") rfl (by decide +kernel); have r2 := hX.nmR (i := 2) (x := "x") rfl (by first | exact Or.inl (by decide +kernel) | exact Or.inr (Or.inl (by decide +kernel))); have w2 := hX.nmW (i := 2) (x := "x") rfl (by decide +kernel); have r3 := hX.nmR (i := 3) (x := "flag") rfl (by first | exact Or.inl (by decide +kernel) | exact Or.inr (Or.inl (by decide +kernel))); have w3 := hX.nmW (i := 3) (x := "flag") rfl (by decide +kernel); have r4 := hX.nmR (i := 4) (x := "number") rfl (by first | exact Or.inl (by decide +kernel) | exact Or.inr (Or.inl (by decide +kernel))); have w4 := hX.nmW (i := 4) (x := "number") rfl (by decide +kernel); have r5 := hX.nmR (i := 5) (x := "coefficients") rfl (by first | exact Or.inl (by decide +kernel) | exact Or.inr (Or.inl (by decide +kernel))); have w5 := hX.nmW (i := 5) (x := "coefficients") rfl (by decide +kernel); have r6 := hX.nmR (i := 6) (x := "sense") rfl (by first | exact Or.inl (by decide +kernel) | exact Or.inr (Or.inl (by decide +kernel))); have w6 := hX.nmW (i := 6) (x := "sense") rfl (by decide +kernel); have r7 := hX.nmR (i := 7) (x := "right") rfl (by first | exact Or.inl (by decide +kernel) | exact Or.inr (Or.inl (by decide +kernel))); have w7 := hX.nmW (i := 7) (x := "right") rfl (by decide +kernel); have r8 := hX.nmR (i := 8) (x := "value") rfl (by first | exact Or.inl (by decide +kernel) | exact Or.inr (Or.inl (by decide +kernel))); have w8 := hX.nmW (i := 8) (x := "value") rfl (by decide +kernel); have g_len := hX.glb (x := "len") (by decide +kernel) C.b_len; have g_zip := hX.glb (x := "zip") (by decide +kernel) C.b_zip; have d_sign := c_sign.at hX (by decide +kernel); have d_dot := c_dot.at hX (by decide +kernel); have d_below := c_below.at hX (by decide +kernel)
    conv => (arg 3; whnf)
    have lx : ((x.map frQ).map E.d).length = x.length := by rw [List.length_map, List.length_map]
    have lf : ((free.map D.bl).map E.d).length = free.length := by rw [List.length_map, List.length_map]
    have hfl := h.fl
    have hc5 := h.cl
    have hr6 := h.rl
    walk_at "go"
    · rename_i hb
      rw [lx, lf] at hb
      rw [decide_eq_false (by omega), Bool.false_and] at k
      exact k
    · rename_i hb
      rw [lx, lf] at hb
      rw [decide_eq_true (by omega), Bool.true_and] at k
      refine jss_for bx (fun i s => ∃ o3 o4, ((free.zip x).take i).all (fun p => p.1 || decide (0 ≤ p.2)) = true ∧ s = ⟨[some (.d (rwsD rows)), some (.d (bls free)), some (.d (frs x)), o3, o4, none, none, none, none], [], 0⟩) (ji_zipS g_zip ?_) (by intro _; rfl)
      walk_at "go"
      refine ⟨_, _, rfl, rfl, by rw [List.length_map, List.length_map]; omega, ⟨_, _, by rw [List.take_zero]; rfl, rfl⟩, ?_, ?_⟩
      · rintro i v s' hi ⟨d, d2, hd, hd2, rfl⟩ ⟨o3, o4, ha, rfl⟩
        rw [List.getElem?_map] at hd hd2
        have hi2 : i < free.length := by simpa using hi
        have e1 : free[i]? = some free[i] := List.getElem?_eq_getElem hi2
        have e2 : x[i]? = some (x[i]'(by omega)) := List.getElem?_eq_getElem (by omega)
        generalize free[i] = g at e1
        generalize x[i]'(by omega) = y at e2
        rw [e1] at hd
        rw [e2] at hd2
        cases hd; cases hd2
        have ez := zip_get e1 e2
        walk_at "go"
        · rename_i hb
          refine ap_sign ?_
          walk_at "go"
          · rename_i hb2
            have hz : lawV rows free x = false := by
              unfold lawV flagV
              rw [all_no ez (by show (g || decide (0 ≤ y)) = false; rw [decide_eq_false (sg_lt.mp hb2)]; simpa using hb), Bool.false_and]
            rw [hz] at k
            exact k
          · rename_i hb2
            exact ⟨_, _, all_nx ha ez (by show (g || decide (0 ≤ y)) = true; rw [decide_eq_true (Decidable.not_not.mp fun z => hb2 (sg_lt.mpr z)), Bool.or_true]), rfl⟩
        · rename_i hb
          exact ⟨_, _, all_nx ha ez (by show (g || decide (0 ≤ y)) = true; rw [show g = true by simpa using hb, Bool.true_or]), rfl⟩
      · rintro s' ⟨o3, o4, ha, rfl⟩
        have hF : flagV free x = true := by
          unfold flagV
          rw [List.length_map, ← show (free.zip x).length = free.length by rw [List.length_zip]; omega, List.take_length] at ha
          exact ha
        have e0 : lawV rows free x = rows.all (rowV x) := by unfold lawV; rw [hF, Bool.true_and]
        rw [e0] at k
        refine jss_for bx (fun i s => ∃ o5 o6 o7 o8, (rows.take i).all (rowV x) = true ∧ s = ⟨[some (.d (rwsD rows)), some (.d (bls free)), some (.d (frs x)), o3, o4, o5, o6, o7, o8], [], 0⟩) (ji_lst ?_) (by intro _; rfl)
        walk_at "go"
        refine ⟨⟨_, _, _, _, by rw [List.take_zero]; rfl, rfl⟩, ?_, ?_⟩
        · rintro i v s' hi ⟨d, hd, rfl⟩ ⟨o5, o6, o7, o8, hR, rfl⟩
          rw [List.getElem?_map] at hd
          cases e1 : rows[i]? with
          | none => rw [e1] at hd; cases hd
          | some q =>
            rw [e1] at hd
            cases hd
            obtain ⟨ql, qq, qb, qs⟩ := h.rw q (List.mem_of_getElem? e1)
            have no : rowV x q = false → post (.dat (.bl false)) := fun z => by rw [all_no e1 z] at k; exact k
            have yes : rowV x q = true → (rows.take (i + 1)).all (rowV x) = true := all_nx hR e1
            have dq := dot_QB (k := 250) (l := 45) (by omega) (show q.r.length = x.length by omega) qq hx
            walk_at "go"
            refine ap_dot (by omega) (by omega) qq (fun a ha => (hx a ha).mono (by decide)) ?_
            walk_at "go"
            · rename_i h1 h2
              exact no (by unfold rowV; rw [decide_eq_true h1, decide_eq_false h2]; simp)
            · rename_i h1 h2
              refine ap_below 1000 (1 + (250 + 45 + 1) * 5) qb dq (by decide) (by decide) (by decide) ?_
              walk_at "go"
              · rename_i h3
                exact no (by unfold rowV; rw [decide_eq_false (Rat.not_le.mpr h3)]; rfl)
              · rename_i h3
                exact ⟨_, _, _, _, yes (by unfold rowV; rw [decide_eq_true (Rat.not_lt.mp h3), decide_eq_true h2]; simp), rfl⟩
            · rename_i h1
              refine ap_below 1000 (1 + (250 + 45 + 1) * 5) qb dq (by decide) (by decide) (by decide) ?_
              walk_at "go"
              · rename_i h3
                exact no (by unfold rowV; rw [decide_eq_false (Rat.not_le.mpr h3)]; rfl)
              · rename_i h3
                exact ⟨_, _, _, _, yes (by unfold rowV; rw [decide_eq_true (Rat.not_lt.mp h3), decide_eq_false h1]; rfl), rfl⟩
        · rintro s' ⟨o5, o6, o7, o8, hR, rfl⟩
          rw [List.length_map, List.take_length] at hR
          rw [hR] at k
          walk_at "go"
          exact k
end
theorem je_cut {X : Cx} {F : DL.Fr} {e : Expr} {s : S} {Φ : E → S → Prop} {e1 : E} (h : JE X F e s fun y t => y = e1 ∧ t = s) (k : Φ e1 s) : JE X F e s Φ := h.mono fun y t ⟨a, b⟩ => by subst a b; exact k
def fac1 (q : Rw) (v : Rat) : Bool := decide (q.s = sJ) || decide (0 ≤ v)
def facs (rows : List Rw) (y : List Rat) : List Bool := List.zipWith fac1 rows y
def facV (rows : List Rw) (y : List Rat) : Bool := (facs rows y).all id
theorem facs_get {rows : List Rw} {y : List Rat} {i : Nat} {q : Rw} {v : Rat} (h1 : rows[i]? = some q) (h2 : y[i]? = some v) : (facs rows y)[i]? = some (fac1 q v) := by
  unfold facs; rw [List.getElem?_zipWith, h1, h2]
theorem facs_len {rows : List Rw} {y : List Rat} (h : y.length = rows.length) : (facs rows y).length = rows.length := by
  unfold facs; rw [List.length_zipWith]; omega
theorem bls_eq (bs : List Bool) : (List.range bs.length).map (fun i => D.bl (bs.getD i false)) = bs.map D.bl := range_getD D.bl false bs
def hd1 (f : Bool) (x g : Rat) : Bool := decide (g ≤ x) && (!f || decide (x = g))
def hdV (fs : List Bool) (xs gs : List Rat) : Bool := (fs.zip (xs.zip gs)).all fun p => hd1 p.1 p.2.1 p.2.2
def R_fac : RP := fun ds post => ∃ (rows : List Rw) (y : List Rat), ds = [rwsD rows, frs y] ∧ rows.length ≤ 6 ∧ y.length ≤ 8 ∧ post (.dat (.bl (decide (y.length = rows.length) && facV rows y)))
theorem ap_fac {rows : List Rw} {y : List Rat} {post : Rt → Prop} (h : rows.length ≤ 6) (hl : y.length ≤ 8) (q : post (.dat (.bl (decide (y.length = rows.length) && facV rows y)))) : R_fac [rwsD rows, frs y] post := ⟨rows, y, rfl, h, hl, q⟩
theorem mo_fac : MonoP R_fac := fun ds p q m ⟨a, b, c, d, e, h⟩ => ⟨a, b, c, d, e, m _ h⟩
abbrev rowsR (rows : List Rw) : List (List Rat) := rows.map (·.r)
theorem PrOk.mat {B c : Nat} {rows : List Rw} {free : List Bool} (h : PrOk B c rows free) : MatOk c (rowsR rows) :=
  ⟨by rw [List.length_map]; exact h.rl, h.cl, fun r hr => by
    obtain ⟨q, hq, rfl⟩ := List.mem_map.mp hr
    exact ⟨(h.rw q hq).l, (h.rw q hq).rq⟩⟩
structure HdOk (c : Nat) (goal : List Rat) (rows : List Rw) (free : List Bool) (y : List Rat) : Prop where
  pr : PrOk 1000 c rows free
  gl : goal.length = c
  gq : ∀ x ∈ goal, QB 250 x
  yl : y.length = rows.length
  yq : ∀ x ∈ y, QB 45 x
def R_hd : RP := fun ds post => ∃ (goal : List Rat) (rows : List Rw) (free : List Bool) (y : List Rat) (c : Nat), ds = [frs goal, rwsD rows, bls free, frs y] ∧ HdOk c goal rows free y ∧ post (.dat (.bl (hdV free (comb (rowsR rows) y c rows.length) goal)))
theorem ap_hd {goal : List Rat} {rows : List Rw} {free : List Bool} {y : List Rat} {c : Nat} {post : Rt → Prop} (h : HdOk c goal rows free y) (q : post (.dat (.bl (hdV free (comb (rowsR rows) y c rows.length) goal)))) : R_hd [frs goal, rwsD rows, bls free, frs y] post := ⟨goal, rows, free, y, c, rfl, h, q⟩
theorem mo_hd : MonoP R_hd := fun ds p q m ⟨a, b, c, d, e, f, g, h⟩ => ⟨a, b, c, d, e, f, g, m _ h⟩
section
variable {P : Program} {w : World} {K : PySem.W.Frag} {mg : Str → Option Value} {base : Heap}
theorem ok_are_factors {f : Addr} {fd : FuncData} (C : Bs2 mg) (c_sign : CaP P w K mg base "sign" 1 R_sign) (Fu : Fun K "are_factors" "are_factors" s_are_factors f fd) : FnOk P w K mg base CX0 2 f fd ["rows", "y"] (spP K R_fac) := by
  refine fn_P Fu sc_are_factors (fun ds post h => ?_) fun X F ds post hX hfn hH h => ?_
  · obtain ⟨_, _, rfl, _⟩ := h
    rfl
  · obtain ⟨rows, y, rfl, hr, hl, k⟩ := h
    have bx := hX.bx
    have r0 := hX.nmR (i := 0) (x := "rows") rfl (by first | exact Or.inl (by decide +kernel) | exact Or.inr (Or.inl (by decide +kernel))); have w0 := hX.nmW (i := 0) (x := "rows") rfl (by decide +kernel); have r1 := hX.nmR (i := 1) (x := "y") rfl (by first | exact Or.inl (by decide +kernel) | exact Or.inr (Or.inl (by decide +kernel))); have w1 := hX.nmW (i := 1) (x := "y") rfl (by decide +kernel); have g_len := hX.glb (x := "len") (by decide +kernel) C.b_len; have g_all := hX.glb (x := "all") (by decide +kernel) C.b_all; have g_zip := hX.glb (x := "zip") (by decide +kernel) C.b_zip
    conv => (arg 3; whnf)
    have ly : ((y.map frQ).map E.d).length = y.length := by rw [List.length_map, List.length_map]
    have lR : ((rows.map rwD).map E.d).length = rows.length := by rw [List.length_map, List.length_map]
    walk_at "go"
    · rename_i hb
      rw [ly, lR] at hb
      rw [decide_eq_false (by omega), Bool.false_and] at k
      exact k
    · rename_i hb
      rw [ly, lR] at hb
      have hyl : y.length = rows.length := by omega
      rw [decide_eq_true hyl, Bool.true_and] at k
      refine je_all bx g_all (je_lcZ bx (blk_ok hX (own := [("row", 2), ("number", 3)]) (by decide +kernel)) (j1 := 2) (j2 := 3) (by decide) (by decide) (fun Y hY => (hY.is hX).nmW rfl (by decide +kernel)) (fun Y hY => (hY.is hX).nmW rfl (by decide +kernel)) (ji_zipS g_zip ?_) (by intro _; rfl)) (by intro _ _; rfl)
      walk_at "go"
      refine ⟨_, _, rfl, rfl, by rw [List.length_map, List.length_map, hyl], rfl, by rw [List.length_map]; omega, _, _, fun i => .bl ((facs rows y).getD i false), rfl, ?_, ?_⟩
      · rintro t d1 d2 acc ht hd1 hd2 Y hY
        rw [List.getElem?_map] at hd1 hd2
        cases e1 : rows[t]? with
        | none => rw [e1] at hd1; cases hd1
        | some q =>
          cases e2 : y[t]? with
          | none => rw [e2] at hd2; cases hd2
          | some v =>
            rw [e1] at hd1
            rw [e2] at hd2
            cases hd1; cases hd2
            have hgd : (facs rows y).getD t false = fac1 q v := getD_at (facs_get e1 e2)
            have hYX := hY.is hX; have bY := hYX.bx; have r2Y := hYX.nmR (i := 2) (x := "row") rfl (by first | exact Or.inl (by decide +kernel) | exact Or.inr (Or.inl (by decide +kernel)) | exact Or.inr (Or.inr (by decide +kernel))); have e_sign := c_sign.at hYX (by decide +kernel); have r3Y := hYX.nmR (i := 3) (x := "number") rfl (by first | exact Or.inl (by decide +kernel) | exact Or.inr (Or.inl (by decide +kernel)) | exact Or.inr (Or.inr (by decide +kernel)))
            walk_at "go"
            · rename_i h1
              exact ⟨by show _ = E.d (D.bl ((facs rows y).getD t false)); rw [hgd]; unfold fac1; simp [h1], rfl⟩
            · rename_i h1
              refine ap_sign ?_
              walk_at "go"
              refine ⟨?_, rfl⟩
              show _ = E.d (D.bl ((facs rows y).getD t false))
              rw [hgd]
              unfold fac1
              have e : decide (0 ≤ v) = decide (0 ≤ sgI v) := decide_eq_decide.mpr ⟨fun h => by have := mt sg_lt.mp (Classical.not_not.mpr h); omega, fun h => Decidable.not_not.mp fun z => by have := sg_lt.mpr z; omega⟩
              rw [e]
              simp [h1]
      · refine ⟨facs rows y, ?_, k⟩
        show some (Kd.lst, _) = _
        rw [List.length_map, ← facs_len hyl, bls_eq]
theorem ok_holds_down {f : Addr} {fd : FuncData} (C : Bs2 mg) (c_combined : CaP P w K mg base "combined" 4 R_comb) (c_below : CaP P w K mg base "below" 1 R_below) (Fu : Fun K "holds_down" "holds_down" s_holds_down f fd) : FnOk P w K mg base CX0 5 f fd ["goal", "rows", "free", "y"] (spP K R_hd) := by
  refine fn_P Fu sc_holds_down (fun ds post h => ?_) fun X F ds post hX hfn hH h => ?_
  · obtain ⟨_, _, _, _, _, rfl, _⟩ := h
    rfl
  · obtain ⟨goal, rows, free, y, c, rfl, h, k⟩ := h
    have bx := hX.bx
    have r0 := hX.nmR (i := 0) (x := "goal") rfl (by first | exact Or.inl (by decide +kernel) | exact Or.inr (Or.inl (by decide +kernel))); have w0 := hX.nmW (i := 0) (x := "goal") rfl (by decide +kernel); have r1 := hX.nmR (i := 1) (x := "rows") rfl (by first | exact Or.inl (by decide +kernel) | exact Or.inr (Or.inl (by decide +kernel))); have w1 := hX.nmW (i := 1) (x := "rows") rfl (by decide +kernel); have r2 := hX.nmR (i := 2) (x := "free") rfl (by first | exact Or.inl (by decide +kernel) | exact Or.inr (Or.inl (by decide +kernel))); have w2 := hX.nmW (i := 2) (x := "free") rfl (by decide +kernel); have r3 := hX.nmR (i := 3) (x := "y") rfl (by first | exact Or.inl (by decide +kernel) | exact Or.inr (Or.inl (by decide +kernel))); have w3 := hX.nmW (i := 3) (x := "y") rfl (by decide +kernel); have r4 := hX.nmR (i := 4) (x := "found") rfl (by first | exact Or.inl (by decide +kernel) | exact Or.inr (Or.inl (by decide +kernel))); have w4 := hX.nmW (i := 4) (x := "found") rfl (by decide +kernel); have r5 := hX.nmR (i := 5) (x := "flag") rfl (by first | exact Or.inl (by decide +kernel) | exact Or.inr (Or.inl (by decide +kernel))); have w5 := hX.nmW (i := 5) (x := "flag") rfl (by decide +kernel); have r6 := hX.nmR (i := 6) (x := "number") rfl (by first | exact Or.inl (by decide +kernel) | exact Or.inr (Or.inl (by decide +kernel))); have w6 := hX.nmW (i := 6) (x := "number") rfl (by decide +kernel); have r7 := hX.nmR (i := 7) (x := "due") rfl (by first | exact Or.inl (by decide +kernel) | exact Or.inr (Or.inl (by decide +kernel))); have w7 := hX.nmW (i := 7) (x := "due") rfl (by decide +kernel); have d_combined := c_combined.at hX (by decide +kernel); have g_len := hX.glb (x := "len") (by decide +kernel) C.b_len; have g_zip := hX.glb (x := "zip") (by decide +kernel) C.b_zip; have d_below := c_below.at hX (by decide +kernel)
    conv => (arg 3; whnf)
    have hr6 := h.pr.rl
    have hfl := h.pr.fl
    have hgl := h.gl
    have hc5 := h.pr.cl
    walk_at "go"
    refine je_cut (e1 := .d (matD (rowsR rows))) ?_ ?_
    · refine je_lcP bx (blk_ok hX (own := [("row", 8)]) (by decide +kernel)) (j := 8) (by decide) (fun Y hY => (hY.is hX).nmW rfl (by decide +kernel)) (ji_lst ?_) (by intro _; rfl)
      walk_at "go"
      refine ⟨rfl, by rw [List.length_map]; omega, fun i => frs ((rowsR rows).getD i []), ?_, ?_, rfl⟩
      · rintro i v acc hi ⟨d, hd, rfl⟩ Y hY
        rw [List.getElem?_map] at hd
        cases ex : rows[i]? with
        | none => rw [ex] at hd; cases hd
        | some q =>
          rw [ex] at hd
          cases hd
          have hg : (rowsR rows).getD i [] = q.r := getD_at (by rw [List.getElem?_map, ex]; rfl)
          have hYX := hY.is hX; have bY := hYX.bx; have r8Y := hYX.nmR (i := 8) (x := "row") rfl (by first | exact Or.inl (by decide +kernel) | exact Or.inr (Or.inl (by decide +kernel)) | exact Or.inr (Or.inr (by decide +kernel)))
          walk_at "go"
          exact ⟨by show _ = E.d (frs ((rowsR rows).getD i [])); rw [hg], rfl⟩
      · have e := range_getD frs [] (rowsR rows)
        rw [List.length_map] at e
        rw [List.length_map, e]
    walk_at "go"
    have lf : ((free.map D.bl).map E.d).length = c := by rw [List.length_map, List.length_map]; exact hfl
    rw [lf]
    refine ap_comb h.pr.mat (by rw [List.length_map]; exact h.yl) h.yq ?_
    rw [List.length_map]
    obtain ⟨col, coq⟩ := h.pr.mat.comb (by rw [List.length_map]; exact h.yl) h.yq rows.length (by rw [List.length_map]; exact Nat.le_refl _)
    generalize comb (rowsR rows) y c rows.length = co at k col coq
    walk_at "go"
    refine jss_for bx (fun i s => ∃ o5 o6 o7, ((free.zip (co.zip goal)).take i).all (fun p => hd1 p.1 p.2.1 p.2.2) = true ∧ s = ⟨[some (.d (frs goal)), some (.d (rwsD rows)), some (.d (bls free)), some (.d (frs y)), some (.d (frs co)), o5, o6, o7, none], [], 0⟩) (ji_zip3 g_zip ?_) (by intro _; rfl)
    walk_at "go"
    refine ⟨_, _, _, rfl, rfl, rfl, by rw [List.length_map, List.length_map]; omega, by rw [List.length_map, List.length_map]; omega, ⟨_, _, _, by rw [List.take_zero]; rfl, rfl⟩, ?_, ?_⟩
    · rintro i v s' hi ⟨d, d2, d3, hd, hd2, hd3, rfl⟩ ⟨o5, o6, o7, ha, rfl⟩
      rw [List.getElem?_map] at hd hd2 hd3
      have hi2 : i < free.length := by simpa using hi
      have e1 : free[i]? = some free[i] := List.getElem?_eq_getElem hi2
      have e2 : co[i]? = some (co[i]'(by omega)) := List.getElem?_eq_getElem (by omega)
      have e3 : goal[i]? = some (goal[i]'(by omega)) := List.getElem?_eq_getElem (by omega)
      generalize free[i] = g at e1
      generalize co[i]'(by omega) = x at e2
      generalize goal[i]'(by omega) = z at e3
      rw [e1] at hd
      rw [e2] at hd2
      rw [e3] at hd3
      cases hd; cases hd2; cases hd3
      have ez := zip_get e1 (zip_get e2 e3)
      have no : hd1 g x z = false → post (.dat (.bl false)) := fun q => by unfold hdV at k; rw [all_no ez q] at k; exact k
      have yes : hd1 g x z = true → ((free.zip (co.zip goal)).take (i + 1)).all (fun p => hd1 p.1 p.2.1 p.2.2) = true := all_nx ha ez
      have hi6 : rows.length ≤ 6 := hr6
      walk_at "go"
      refine ap_below (1 + 298 * rows.length) 250 (coq x (List.mem_of_getElem? e2)) (h.gq z (List.mem_of_getElem? e3)) (by omega) (by decide) (by omega) ?_
      walk_at "go"
      · rename_i h1
        exact no (by unfold hd1; rw [decide_eq_false (Rat.not_le.mpr h1)]; rfl)
      · rename_i h1 h2 h3
        exact no (by unfold hd1; rw [h2, decide_eq_false h3]; simp)
      · rename_i h1 h2 h3
        exact ⟨_, _, _, yes (by unfold hd1; rw [decide_eq_true (Rat.not_lt.mp h1), decide_eq_true h3]; simp), rfl⟩
      · rename_i h1 h2
        exact ⟨_, _, _, yes (by unfold hd1; rw [decide_eq_true (Rat.not_lt.mp h1), h2]; rfl), rfl⟩
    · rintro s' ⟨o5, o6, o7, ha, rfl⟩
      rw [List.length_map, ← show (free.zip (co.zip goal)).length = free.length by rw [List.length_zip, List.length_zip]; omega, List.take_length] at ha
      have hz : hdV free co goal = true := ha
      rw [hz] at k
      walk_at "go"
      exact k
end
abbrev rowsB (rows : List Rw) : List Rat := rows.map (·.b)
def valV (rows : List Rw) (y : List Rat) : Rat := (dots (rowsB rows) y).sum
def holV (goal : List Rat) (rows : List Rw) (free : List Bool) (y : List Rat) : Bool := facV rows y && hdV free (comb (rowsR rows) y free.length rows.length) goal
def bestV (goal : List Rat) (rows : List Rw) (free : List Bool) (x y : List Rat) : Bool :=
  decide (x.length = free.length) && (decide (y.length = rows.length) && (lawV rows free x && (holV goal rows free y && decide (valV rows y = (dots goal x).sum))))
def noneV (goal : List Rat) (rows : List Rw) (free : List Bool) (y : List Rat) : Bool :=
  decide (y.length = rows.length) && (holV (List.replicate goal.length 0) rows free y && decide (valV rows y < 0))
def rayR (rows : List Rw) : List Rw := rows.map fun q => ⟨q.r, q.s, 0⟩
def endV (goal : List Rat) (rows : List Rw) (free : List Bool) (x r : List Rat) : Bool :=
  decide (x.length = free.length) && (decide (r.length = free.length) && (lawV rows free x && (lawV (rayR rows) free r && decide (0 < (dots goal r).sum))))
/-- a program and two lists, of lawful sizes; B: the right sides' size -/
structure Md (B c : Nat) (goal : List Rat) (rows : List Rw) (free : List Bool) (x y : List Rat) : Prop where
  pr : PrOk B c rows free
  gl : goal.length = c
  gq : ∀ g ∈ goal, QB 250 g
  xl : x.length ≤ 6
  xq : ∀ a ∈ x, QB 45 a
  yl : y.length ≤ 8
  yq : ∀ a ∈ y, QB 45 a
theorem PrOk.mono {A B c : Nat} {rows : List Rw} {free : List Bool} (h : PrOk A c rows free) (hl : A ≤ B) : PrOk B c rows free := ⟨h.rl, h.cl, h.fl, fun q hq => let z := h.rw q hq; ⟨z.l, z.rq, z.b.mono hl, z.s⟩⟩
def R_best : RP := fun ds post => ∃ (goal : List Rat) (rows : List Rw) (free : List Bool) (x y : List Rat) (c : Nat), ds = [frs goal, rwsD rows, bls free, frs x, frs y] ∧ Md 250 c goal rows free x y ∧ post (.dat (.bl (bestV goal rows free x y)))
theorem ap_best {goal : List Rat} {rows : List Rw} {free : List Bool} {x y : List Rat} {c : Nat} {post : Rt → Prop} (h : Md 250 c goal rows free x y) (q : post (.dat (.bl (bestV goal rows free x y)))) : R_best [frs goal, rwsD rows, bls free, frs x, frs y] post := ⟨goal, rows, free, x, y, c, rfl, h, q⟩
theorem mo_best : MonoP R_best := fun ds p q m ⟨a, b, c, d, e, f, g, i, h⟩ => ⟨a, b, c, d, e, f, g, i, m _ h⟩
def R_none : RP := fun ds post => ∃ (goal : List Rat) (rows : List Rw) (free : List Bool) (y : List Rat) (c : Nat), ds = [frs goal, rwsD rows, bls free, frs y] ∧ Md 250 c goal rows free [] y ∧ post (.dat (.bl (noneV goal rows free y)))
theorem ap_none {goal : List Rat} {rows : List Rw} {free : List Bool} {y : List Rat} {c : Nat} {post : Rt → Prop} (h : Md 250 c goal rows free [] y) (q : post (.dat (.bl (noneV goal rows free y)))) : R_none [frs goal, rwsD rows, bls free, frs y] post := ⟨goal, rows, free, y, c, rfl, h, q⟩
theorem mo_none : MonoP R_none := fun ds p q m ⟨a, b, c, d, e, f, g, h⟩ => ⟨a, b, c, d, e, f, g, m _ h⟩
def R_end : RP := fun ds post => ∃ (goal : List Rat) (rows : List Rw) (free : List Bool) (x y : List Rat) (c : Nat), ds = [frs goal, rwsD rows, bls free, frs x, frs y] ∧ Md 1000 c goal rows free x y ∧ post (.dat (.bl (endV goal rows free x y)))
theorem ap_end {goal : List Rat} {rows : List Rw} {free : List Bool} {x y : List Rat} {c : Nat} {post : Rt → Prop} (h : Md 1000 c goal rows free x y) (q : post (.dat (.bl (endV goal rows free x y)))) : R_end [frs goal, rwsD rows, bls free, frs x, frs y] post := ⟨goal, rows, free, x, y, c, rfl, h, q⟩
theorem mo_end : MonoP R_end := fun ds p q m ⟨a, b, c, d, e, f, g, i, h⟩ => ⟨a, b, c, d, e, f, g, i, m _ h⟩
theorem bq1 : ∀ {A L Y R : Bool}, (!(A && L)) = true → (A && (Y && (L && R))) = false := by decide
theorem bq2 : ∀ {A L Y R : Bool}, (!(A && L)) = false → (A && (Y && (L && R))) = (Y && R) := by decide
theorem bq3 : ∀ {Y F H R : Bool}, (!(Y && F)) = true → (Y && ((F && H) && R)) = false := by decide
theorem bq4 : ∀ {Y F H R : Bool}, (!(Y && F)) = false → Y = true ∧ (Y && ((F && H) && R)) = (H && R) := by decide
theorem bq5 : ∀ {H R : Bool}, (!H) = true → (H && R) = false := by decide
theorem bq6 : ∀ {H R : Bool}, (!H) = false → (H && R) = R := by decide
theorem bq7 : ∀ {A L Y R : Bool}, (!(A && L)) = false → A = true := by decide
section
variable {P : Program} {w : World} {K : PySem.W.Frag} {mg : Str → Option Value} {base : Heap}
/-- [row[2] for row in rows], in a block -/
theorem ok_shows_best {f : Addr} {fd : FuncData} (C : Bs2 mg) (c_is_lawful : CaP P w K mg base "is_lawful" 5 R_islaw) (c_are_factors : CaP P w K mg base "are_factors" 2 R_fac) (c_holds_down : CaP P w K mg base "holds_down" 5 R_hd) (c_dot : CaP P w K mg base "dot" 4 R_dot) (Fu : Fun K "shows_best" "shows_best" s_shows_best f fd) : FnOk P w K mg base CX0 6 f fd ["goal", "rows", "free", "x", "y"] (spP K R_best) := by
  refine fn_P Fu sc_shows_best (fun ds post h => ?_) fun X F ds post hX hfn hH h => ?_
  · obtain ⟨_, _, _, _, _, _, rfl, _⟩ := h
    rfl
  · obtain ⟨goal, rows, free, x, y, c, rfl, h, k⟩ := h
    have bx := hX.bx
    have r0 := hX.nmR (i := 0) (x := "goal") rfl (by first | exact Or.inl (by decide +kernel) | exact Or.inr (Or.inl (by decide +kernel))); have w0 := hX.nmW (i := 0) (x := "goal") rfl (by decide +kernel); have r1 := hX.nmR (i := 1) (x := "rows") rfl (by first | exact Or.inl (by decide +kernel) | exact Or.inr (Or.inl (by decide +kernel))); have w1 := hX.nmW (i := 1) (x := "rows") rfl (by decide +kernel); have r2 := hX.nmR (i := 2) (x := "free") rfl (by first | exact Or.inl (by decide +kernel) | exact Or.inr (Or.inl (by decide +kernel))); have w2 := hX.nmW (i := 2) (x := "free") rfl (by decide +kernel); have r3 := hX.nmR (i := 3) (x := "x") rfl (by first | exact Or.inl (by decide +kernel) | exact Or.inr (Or.inl (by decide +kernel))); have w3 := hX.nmW (i := 3) (x := "x") rfl (by decide +kernel); have r4 := hX.nmR (i := 4) (x := "y") rfl (by first | exact Or.inl (by decide +kernel) | exact Or.inr (Or.inl (by decide +kernel))); have w4 := hX.nmW (i := 4) (x := "y") rfl (by decide +kernel); have d_is_lawful := c_is_lawful.at hX (by decide +kernel); have d_are_factors := c_are_factors.at hX (by decide +kernel); have d_holds_down := c_holds_down.at hX (by decide +kernel); have d_dot := c_dot.at hX (by decide +kernel)
    conv => (arg 3; whnf)
    have hr6 := h.pr.rl
    have hfl := h.pr.fl
    have hgl := h.gl
    have hc5 := h.pr.cl
    have p1 := h.pr.mono (show 250 ≤ 1000 by decide)
    unfold bestV at k
    rw [hfl] at k
    walk_at "go"
    refine ap_islaw p1 h.xl h.xq ?_
    walk_at "go"
    · rename_i h1
      rw [bq1 h1] at k
      exact k
    · rename_i h1
      rw [bq2 h1] at k
      refine ap_fac hr6 h.yl ?_
      unfold holV at k
      walk_at "go"
      · rename_i h2
        rw [bq3 h2] at k
        exact k
      · rename_i h2
        obtain ⟨hY, e2⟩ := bq4 (H := hdV free (comb (rowsR rows) y free.length rows.length) goal) (R := decide (valV rows y = (dots goal x).sum)) h2
        rw [e2] at k
        have hyl : y.length = rows.length := of_decide_eq_true hY
        have hxl : x.length = c := of_decide_eq_true (bq7 (Y := true) (R := true) h1)
        rw [hfl] at k
        refine ap_hd ⟨p1, hgl, h.gq, hyl, h.yq⟩ ?_
        walk_at "go"
        · rename_i h3
          rw [bq5 h3] at k
          exact k
        · rename_i h3
          rw [bq6 h3] at k
          refine je_cut (e1 := .d (frs (rowsB rows))) ?_ ?_
          · refine je_lcP bx (blk_ok hX (own := [("row", 5)]) (by decide +kernel)) (j := 5) (by decide) (fun Y hY => (hY.is hX).nmW rfl (by decide +kernel)) (ji_lst ?_) (by intro _; rfl)
            walk_at "go"
            refine ⟨rfl, by rw [List.length_map]; omega, fun i => frQ ((rowsB rows).getD i 0), ?_, ?_, rfl⟩
            · rintro i v acc hi ⟨d, hd, rfl⟩ Y hY
              rw [List.getElem?_map] at hd
              cases ex : rows[i]? with
              | none => rw [ex] at hd; cases hd
              | some q =>
                rw [ex] at hd
                cases hd
                have hg : (rowsB rows).getD i 0 = q.b := getD_at (by rw [List.getElem?_map, ex]; rfl)
                have hYX := hY.is hX; have bY := hYX.bx; have r5Y := hYX.nmR (i := 5) (x := "row") rfl (by first | exact Or.inl (by decide +kernel) | exact Or.inr (Or.inl (by decide +kernel)) | exact Or.inr (Or.inr (by decide +kernel)))
                walk_at "go"
                exact ⟨by show _ = E.d (frQ ((rowsB rows).getD i 0)); rw [hg], rfl⟩
            · have e := range_getD frQ 0 (rowsB rows)
              rw [List.length_map] at e
              rw [List.length_map, e]
          walk_at "go"
          have hB : ∀ b ∈ rowsB rows, QB 250 b := fun b hb => by
            obtain ⟨q, hq, rfl⟩ := List.mem_map.mp hb
            exact (h.pr.rw q hq).b
          refine ap_dot (by rw [List.length_map]; omega) (by rw [List.length_map]; omega) hB (fun a ha => (h.yq a ha).mono (by decide)) ?_
          walk_at "go"
          refine ap_dot (by omega) (by omega) h.gq (fun a ha => (h.xq a ha).mono (by decide)) ?_
          walk_at "go"
          exact k
theorem ok_shows_none {f : Addr} {fd : FuncData} (C : Bs2 mg) (gZ : ZeroOk P w K mg base) (c_sign : CaP P w K mg base "sign" 1 R_sign) (c_are_factors : CaP P w K mg base "are_factors" 2 R_fac) (c_holds_down : CaP P w K mg base "holds_down" 5 R_hd) (c_dot : CaP P w K mg base "dot" 4 R_dot) (Fu : Fun K "shows_none" "shows_none" s_shows_none f fd) : FnOk P w K mg base CX0 6 f fd ["goal", "rows", "free", "y"] (spP K R_none) := by
  refine fn_P Fu sc_shows_none (fun ds post h => ?_) fun X F ds post hX hfn hH h => ?_
  · obtain ⟨_, _, _, _, _, rfl, _⟩ := h
    rfl
  · obtain ⟨goal, rows, free, y, c, rfl, h, k⟩ := h
    have bx := hX.bx
    have r0 := hX.nmR (i := 0) (x := "goal") rfl (by first | exact Or.inl (by decide +kernel) | exact Or.inr (Or.inl (by decide +kernel))); have w0 := hX.nmW (i := 0) (x := "goal") rfl (by decide +kernel); have r1 := hX.nmR (i := 1) (x := "rows") rfl (by first | exact Or.inl (by decide +kernel) | exact Or.inr (Or.inl (by decide +kernel))); have w1 := hX.nmW (i := 1) (x := "rows") rfl (by decide +kernel); have r2 := hX.nmR (i := 2) (x := "free") rfl (by first | exact Or.inl (by decide +kernel) | exact Or.inr (Or.inl (by decide +kernel))); have w2 := hX.nmW (i := 2) (x := "free") rfl (by decide +kernel); have r3 := hX.nmR (i := 3) (x := "y") rfl (by first | exact Or.inl (by decide +kernel) | exact Or.inr (Or.inl (by decide +kernel))); have w3 := hX.nmW (i := 3) (x := "y") rfl (by decide +kernel); have r4 := hX.nmR (i := 4) (x := "zeros") rfl (by first | exact Or.inl (by decide +kernel) | exact Or.inr (Or.inl (by decide +kernel))); have w4 := hX.nmW (i := 4) (x := "zeros") rfl (by decide +kernel); have d_are_factors := c_are_factors.at hX (by decide +kernel); have d_holds_down := c_holds_down.at hX (by decide +kernel); have d_sign := c_sign.at hX (by decide +kernel); have d_dot := c_dot.at hX (by decide +kernel)
    conv => (arg 3; whnf)
    have hr6 := h.pr.rl
    have hfl := h.pr.fl
    have hgl := h.gl
    have hc5 := h.pr.cl
    have p1 := h.pr.mono (show 250 ≤ 1000 by decide)
    unfold noneV at k
    refine jss_cons (js_setLcP bx w4 (hX.loc (by decide +kernel)) (by rw [env_eq hX.eS]; rfl) (blk_ok hX (own := [("number", 5)]) (by decide +kernel)) (j := 5) (by decide) (fun Y hY => (hY.is hX).nmW rfl (by decide +kernel)) (ji_lst ?_) (by intro _; rfl))
    walk_at "go"
    refine ⟨rfl, by rw [List.length_map]; omega, fun _ => frQ 0, ?_, ?_⟩
    · rintro i v acc hi ⟨d, hd, rfl⟩ Y hY
      have hYX := hY.is hX
      have g0 := gZ hYX (by decide +kernel)
      walk_at "go"
      exact ⟨rfl, rfl⟩
    rw [List.length_map, zeros_eq]
    walk_at "go"
    refine ap_fac hr6 h.yl ?_
    unfold holV at k
    walk_at "go"
    · rename_i h2
      rw [bq3 h2] at k
      exact k
    · rename_i h2
      obtain ⟨hY, e2⟩ := bq4 (H := hdV free (comb (rowsR rows) y free.length rows.length) (List.replicate goal.length 0)) (R := decide (valV rows y < 0)) h2
      rw [e2] at k
      have hyl : y.length = rows.length := of_decide_eq_true hY
      rw [hfl] at k
      refine ap_hd ⟨p1, by rw [List.length_replicate]; exact hgl, fun x hx => by rw [List.eq_of_mem_replicate hx]; exact QB_0 (by decide), hyl, h.yq⟩ ?_
      walk_at "go"
      · rename_i h3
        rw [bq5 h3] at k
        exact k
      · rename_i h3
        rw [bq6 h3] at k
        refine je_cut (e1 := .d (frs (rowsB rows))) ?_ ?_
        · refine je_lcP bx (blk_ok hX (own := [("row", 6)]) (by decide +kernel)) (j := 6) (by decide) (fun Y hY => (hY.is hX).nmW rfl (by decide +kernel)) (ji_lst ?_) (by intro _; rfl)
          walk_at "go"
          refine ⟨rfl, by rw [List.length_map]; omega, fun i => frQ ((rowsB rows).getD i 0), ?_, ?_, rfl⟩
          · rintro i v acc hi ⟨d, hd, rfl⟩ Y hY
            rw [List.getElem?_map] at hd
            cases ex : rows[i]? with
            | none => rw [ex] at hd; cases hd
            | some q =>
              rw [ex] at hd
              cases hd
              have hg : (rowsB rows).getD i 0 = q.b := getD_at (by rw [List.getElem?_map, ex]; rfl)
              have hYX := hY.is hX; have bY := hYX.bx; have r6Y := hYX.nmR (i := 6) (x := "row") rfl (by first | exact Or.inl (by decide +kernel) | exact Or.inr (Or.inl (by decide +kernel)) | exact Or.inr (Or.inr (by decide +kernel)))
              walk_at "go"
              exact ⟨by show _ = E.d (frQ ((rowsB rows).getD i 0)); rw [hg], rfl⟩
          · have e := range_getD frQ 0 (rowsB rows)
            rw [List.length_map] at e
            rw [List.length_map, e]
        walk_at "go"
        have hB : ∀ b ∈ rowsB rows, QB 250 b := fun b hb => by
          obtain ⟨q, hq, rfl⟩ := List.mem_map.mp hb
          exact (h.pr.rw q hq).b
        refine ap_dot (by rw [List.length_map]; omega) (by rw [List.length_map]; omega) hB (fun a ha => (h.yq a ha).mono (by decide)) ?_
        walk_at "go"
        refine ap_sign ?_
        walk_at "go"
        have e : decide (sgI (dots (rowsB rows) y).sum < 0) = decide (valV rows y < 0) := decide_eq_decide.mpr (sg_lt.trans Rat.not_le)
        rw [← e] at k
        exact k
end
theorem bq8 : ∀ {A L R1 R : Bool}, (!(A && L)) = true → (A && (R1 && (L && R))) = false := by decide
theorem bq9 : ∀ {A L R1 R : Bool}, (!(A && L)) = false → (A && (R1 && (L && R))) = (R1 && R) := by decide
section
variable {P : Program} {w : World} {K : PySem.W.Frag} {mg : Str → Option Value} {base : Heap}
theorem ok_shows_endless {f : Addr} {fd : FuncData} (C : Bs2 mg) (c_is_lawful : CaP P w K mg base "is_lawful" 5 R_islaw) (c_sign : CaP P w K mg base "sign" 1 R_sign) (c_dot : CaP P w K mg base "dot" 4 R_dot) (Fu : Fun K "shows_endless" "shows_endless" s_shows_endless f fd) : FnOk P w K mg base CX0 6 f fd ["goal", "rows", "free", "x", "r"] (spP K R_end) := by
  refine fn_P Fu sc_shows_endless (fun ds post h => ?_) fun X F ds post hX hfn hH h => ?_
  · obtain ⟨_, _, _, _, _, _, rfl, _⟩ := h
    rfl
  · obtain ⟨goal, rows, free, x, r, c, rfl, h, k⟩ := h
    have bx := hX.bx
    have r0 := hX.nmR (i := 0) (x := "goal") rfl (by first | exact Or.inl (by decide +kernel) | exact Or.inr (Or.inl (by decide +kernel))); have w0 := hX.nmW (i := 0) (x := "goal") rfl (by decide +kernel); have r1 := hX.nmR (i := 1) (x := "rows") rfl (by first | exact Or.inl (by decide +kernel) | exact Or.inr (Or.inl (by decide +kernel))); have w1 := hX.nmW (i := 1) (x := "rows") rfl (by decide +kernel); have r2 := hX.nmR (i := 2) (x := "free") rfl (by first | exact Or.inl (by decide +kernel) | exact Or.inr (Or.inl (by decide +kernel))); have w2 := hX.nmW (i := 2) (x := "free") rfl (by decide +kernel); have r3 := hX.nmR (i := 3) (x := "x") rfl (by first | exact Or.inl (by decide +kernel) | exact Or.inr (Or.inl (by decide +kernel))); have w3 := hX.nmW (i := 3) (x := "x") rfl (by decide +kernel); have r4 := hX.nmR (i := 4) (x := "r") rfl (by first | exact Or.inl (by decide +kernel) | exact Or.inr (Or.inl (by decide +kernel))); have w4 := hX.nmW (i := 4) (x := "r") rfl (by decide +kernel); have r5 := hX.nmR (i := 5) (x := "flag") rfl (by first | exact Or.inl (by decide +kernel) | exact Or.inr (Or.inl (by decide +kernel))); have w5 := hX.nmW (i := 5) (x := "flag") rfl (by decide +kernel); have r6 := hX.nmR (i := 6) (x := "number") rfl (by first | exact Or.inl (by decide +kernel) | exact Or.inr (Or.inl (by decide +kernel))); have w6 := hX.nmW (i := 6) (x := "number") rfl (by decide +kernel); have r7 := hX.nmR (i := 7) (x := "coefficients") rfl (by first | exact Or.inl (by decide +kernel) | exact Or.inr (Or.inl (by decide +kernel))); have w7 := hX.nmW (i := 7) (x := "coefficients") rfl (by decide +kernel); have r8 := hX.nmR (i := 8) (x := "sense") rfl (by first | exact Or.inl (by decide +kernel) | exact Or.inr (Or.inl (by decide +kernel))); have w8 := hX.nmW (i := 8) (x := "sense") rfl (by decide +kernel); have r9 := hX.nmR (i := 9) (x := "right") rfl (by first | exact Or.inl (by decide +kernel) | exact Or.inr (Or.inl (by decide +kernel))); have w9 := hX.nmW (i := 9) (x := "right") rfl (by decide +kernel); have r10 := hX.nmR (i := 10) (x := "value") rfl (by first | exact Or.inl (by decide +kernel) | exact Or.inr (Or.inl (by decide +kernel))); have w10 := hX.nmW (i := 10) (x := "value") rfl (by decide +kernel); have d_is_lawful := c_is_lawful.at hX (by decide +kernel); have g_len := hX.glb (x := "len") (by decide +kernel) C.b_len; have g_zip := hX.glb (x := "zip") (by decide +kernel) C.b_zip; have d_sign := c_sign.at hX (by decide +kernel); have d_dot := c_dot.at hX (by decide +kernel)
    conv => (arg 3; whnf)
    have hr6 := h.pr.rl
    have hfl := h.pr.fl
    have hgl := h.gl
    have hc5 := h.pr.cl
    have lr : ((r.map frQ).map E.d).length = r.length := by rw [List.length_map, List.length_map]
    have lf : ((free.map D.bl).map E.d).length = free.length := by rw [List.length_map, List.length_map]
    unfold endV at k
    rw [hfl] at k
    walk_at "go"
    refine ap_islaw h.pr h.xl h.xq ?_
    walk_at "go"
    · rename_i h1
      rw [bq8 h1] at k
      exact k
    · rename_i h1 h2
      rw [lr, lf] at h2
      rw [bq9 h1, decide_eq_false (by omega), Bool.false_and] at k
      exact k
    · rename_i h1 h2
      rw [lr, lf] at h2
      have hrl : r.length = c := by omega
      rw [bq9 h1, decide_eq_true hrl, Bool.true_and] at k
      refine jss_for bx (fun i s => ∃ o5 o6, ((free.zip r).take i).all (fun p => p.1 || decide (0 ≤ p.2)) = true ∧ s = ⟨[some (.d (frs goal)), some (.d (rwsD rows)), some (.d (bls free)), some (.d (frs x)), some (.d (frs r)), o5, o6, none, none, none, none], [], 0⟩) (ji_zipS g_zip ?_) (by intro _; rfl)
      walk_at "go"
      refine ⟨_, _, rfl, rfl, by rw [List.length_map, List.length_map]; omega, ⟨_, _, by rw [List.take_zero]; rfl, rfl⟩, ?_, ?_⟩
      · rintro i v s' hi ⟨d, d2, hd, hd2, rfl⟩ ⟨o3, o4, ha, rfl⟩
        rw [List.getElem?_map] at hd hd2
        have hi2 : i < free.length := by simpa using hi
        have e1 : free[i]? = some free[i] := List.getElem?_eq_getElem hi2
        have e2 : r[i]? = some (r[i]'(by omega)) := List.getElem?_eq_getElem (by omega)
        generalize free[i] = g at e1
        generalize r[i]'(by omega) = y at e2
        rw [e1] at hd
        rw [e2] at hd2
        cases hd; cases hd2
        have ez := zip_get e1 e2
        walk_at "go"
        · rename_i hb
          refine ap_sign ?_
          walk_at "go"
          · rename_i hb2
            have hz : lawV (rayR rows) free r = false := by
              unfold lawV flagV
              rw [all_no ez (by show (g || decide (0 ≤ y)) = false; rw [decide_eq_false (sg_lt.mp hb2)]; simpa using hb), Bool.false_and]
            rw [hz, Bool.false_and] at k
            exact k
          · rename_i hb2
            exact ⟨_, _, all_nx ha ez (by show (g || decide (0 ≤ y)) = true; rw [decide_eq_true (Decidable.not_not.mp fun z => hb2 (sg_lt.mpr z)), Bool.or_true]), rfl⟩
        · rename_i hb
          exact ⟨_, _, all_nx ha ez (by show (g || decide (0 ≤ y)) = true; rw [show g = true by simpa using hb, Bool.true_or]), rfl⟩
      · rintro s' ⟨o3, o4, ha, rfl⟩
        have hF : flagV free r = true := by
          unfold flagV
          rw [List.length_map, ← show (free.zip r).length = free.length by rw [List.length_zip]; omega, List.take_length] at ha
          exact ha
        have e0 : lawV (rayR rows) free r = (rayR rows).all (rowV r) := by unfold lawV; rw [hF, Bool.true_and]
        rw [e0] at k
        refine jss_for bx (fun i s => ∃ o7 o8 o9 o10, ((rayR rows).take i).all (rowV r) = true ∧ s = ⟨[some (.d (frs goal)), some (.d (rwsD rows)), some (.d (bls free)), some (.d (frs x)), some (.d (frs r)), o3, o4, o7, o8, o9, o10], [], 0⟩) (ji_lst ?_) (by intro _; rfl)
        walk_at "go"
        refine ⟨⟨_, _, _, _, by rw [List.take_zero]; rfl, rfl⟩, ?_, ?_⟩
        · rintro i v s' hi ⟨d, hd, rfl⟩ ⟨o7, o8, o9, o10, hR, rfl⟩
          rw [List.getElem?_map] at hd
          cases e1 : rows[i]? with
          | none => rw [e1] at hd; cases hd
          | some q =>
            rw [e1] at hd
            cases hd
            obtain ⟨ql, qq, qb, qs⟩ := h.pr.rw q (List.mem_of_getElem? e1)
            have e2 : (rayR rows)[i]? = some ⟨q.r, q.s, 0⟩ := by unfold rayR; rw [List.getElem?_map, e1]; rfl
            have no : rowV r ⟨q.r, q.s, 0⟩ = false → post (.dat (.bl false)) := fun z => by rw [all_no e2 z, Bool.false_and] at k; exact k
            have yes : rowV r ⟨q.r, q.s, 0⟩ = true → ((rayR rows).take (i + 1)).all (rowV r) = true := all_nx hR e2
            walk_at "go"
            refine ap_dot (by omega) (by omega) qq (fun a ha => (h.yq a ha).mono (by decide)) ?_
            walk_at "go"
            refine ap_sign ?_
            have z0 : rowV r ⟨q.r, q.s, 0⟩ = (decide ((dots q.r r).sum ≤ 0) && (!decide (q.s = sJ) || decide ((dots q.r r).sum = 0))) := rfl
            rw [z0] at no yes
            generalize (dots q.r r).sum = dv at no yes
            walk_at "go"
            · rename_i h3
              exact no (by rw [decide_eq_false (Rat.not_le.mpr (sg_gt.mp h3))]; rfl)
            · rename_i h3 h4 h5
              exact no (by rw [decide_eq_true h4, decide_eq_false (fun z => h5 (sg_z.mpr z))]; simp)
            · rename_i h3 h4 h5
              have h6 : dv = 0 := sg_z.mp (by omega)
              exact ⟨_, _, _, _, yes (by rw [h6]; simp), rfl⟩
            · rename_i h3 h4
              exact ⟨_, _, _, _, yes (by rw [decide_eq_true (Rat.not_lt.mp fun z => h3 (sg_gt.mpr z)), decide_eq_false h4]; rfl), rfl⟩
        · rintro s' ⟨o7, o8, o9, o10, hR, rfl⟩
          rw [List.length_map, show rows.length = (rayR rows).length by unfold rayR; rw [List.length_map], List.take_length] at hR
          rw [hR, Bool.true_and] at k
          walk_at "go"
          refine ap_dot (by omega) (by omega) h.gq (fun a ha => (h.yq a ha).mono (by decide)) ?_
          walk_at "go"
          refine ap_sign ?_
          walk_at "go"
          have e : decide (0 < sgI (dots goal r).sum) = decide (0 < (dots goal r).sum) := decide_eq_decide.mpr sg_gt
          rw [e]
          exact k
end
theorem rsub_lt {b v : Rat} : (b - v).num < 0 ↔ ¬ v ≤ b := by
  have h : 0 ≤ (b - v).num ↔ v ≤ b := by rw [Rat.num_nonneg, ← Rat.le_iff_sub_nonneg v b]
  rw [← h]; omega
theorem rsub_z {b v : Rat} : (b - v).num = 0 ↔ v = b := by
  rw [Rat.num_eq_zero]
  constructor
  · intro h; grind
  · intro h; grind
theorem sJM : ¬ sM = sJ := by decide
def R_llaw : RP := fun ds post => ∃ (rows : List Rw) (free : List Bool) (x : List Rat) (c : Nat), ds = [rwsD rows, bls free, frs x] ∧ PrOk 1000 c rows free ∧ x.length = c ∧ (∀ a ∈ x, QB 45 a) ∧ post (.dat (.bl (lawV rows free x)))
theorem ap_llaw {rows : List Rw} {free : List Bool} {x : List Rat} {c : Nat} {post : Rt → Prop} (h : PrOk 1000 c rows free) (hl : x.length = c) (hx : ∀ a ∈ x, QB 45 a) (q : post (.dat (.bl (lawV rows free x)))) : R_llaw [rwsD rows, bls free, frs x] post := ⟨rows, free, x, c, rfl, h, hl, hx, q⟩
theorem mo_llaw : MonoP R_llaw := fun ds p q m ⟨a, b, c, d, e, f, g, i, h⟩ => ⟨a, b, c, d, e, f, g, i, m _ h⟩
def R_lhol : RP := fun ds post => ∃ (goal : List Rat) (rows : List Rw) (free : List Bool) (y : List Rat) (c : Nat), ds = [frs goal, rwsD rows, bls free, frs y] ∧ HdOk c goal rows free y ∧ post (.dat (.bl (holV goal rows free y)))
theorem ap_lhol {goal : List Rat} {rows : List Rw} {free : List Bool} {y : List Rat} {c : Nat} {post : Rt → Prop} (h : HdOk c goal rows free y) (q : post (.dat (.bl (holV goal rows free y)))) : R_lhol [frs goal, rwsD rows, bls free, frs y] post := ⟨goal, rows, free, y, c, rfl, h, q⟩
theorem mo_lhol : MonoP R_lhol := fun ds p q m ⟨a, b, c, d, e, f, g, h⟩ => ⟨a, b, c, d, e, f, g, m _ h⟩
section
variable {P : Program} {w : World} {K : PySem.W.Frag} {mg : Str → Option Value} {base : Heap}
theorem ok_law_lawful {f : Addr} {fd : FuncData} (C : Bs2 mg) (c_law_dot : CaP P w K mg base "_law_dot" 4 R_dot) (c_law_sub : CaP P w K mg base "_law_sub" 3 R_less) (Fu : Fun K "_law_lawful" "_law_lawful" s_law_lawful f fd) : FnOk P w K mg base CX0 5 f fd ["rows", "free", "x"] (spP K R_llaw) := by
  refine fn_P Fu sc_law_lawful (fun ds post h => ?_) fun X F ds post hX hfn hH h => ?_
  · obtain ⟨_, _, _, _, rfl, _⟩ := h
    rfl
  · obtain ⟨rows, free, x, c, rfl, h, hl, hx, k⟩ := h
    have bx := hX.bx
    have r0 := hX.nmR (i := 0) (x := "rows") rfl (by first | exact Or.inl (by decide +kernel) | exact Or.inr (Or.inl (by decide +kernel))); have w0 := hX.nmW (i := 0) (x := "rows") rfl (by decide +kernel); have r1 := hX.nmR (i := 1) (x := "free") rfl (by first | exact Or.inl (by decide +kernel) | exact Or.inr (Or.inl (by decide +kernel))); have w1 := hX.nmW (i := 1) (x := "free") rfl (by decide +kernel); have r2 := hX.nmR (i := 2) (x := "x") rfl (by first | exact Or.inl (by decide +kernel) | exact Or.inr (Or.inl (by decide +kernel))); have w2 := hX.nmW (i := 2) (x := "x") rfl (by decide +kernel); have r3 := hX.nmR (i := 3) (x := "k") rfl (by first | exact Or.inl (by decide +kernel) | exact Or.inr (Or.inl (by decide +kernel))); have w3 := hX.nmW (i := 3) (x := "k") rfl (by decide +kernel); have r4 := hX.nmR (i := 4) (x := "coefficients") rfl (by first | exact Or.inl (by decide +kernel) | exact Or.inr (Or.inl (by decide +kernel))); have w4 := hX.nmW (i := 4) (x := "coefficients") rfl (by decide +kernel); have r5 := hX.nmR (i := 5) (x := "sense") rfl (by first | exact Or.inl (by decide +kernel) | exact Or.inr (Or.inl (by decide +kernel))); have w5 := hX.nmW (i := 5) (x := "sense") rfl (by decide +kernel); have r6 := hX.nmR (i := 6) (x := "right") rfl (by first | exact Or.inl (by decide +kernel) | exact Or.inr (Or.inl (by decide +kernel))); have w6 := hX.nmW (i := 6) (x := "right") rfl (by decide +kernel); have r7 := hX.nmR (i := 7) (x := "rest") rfl (by first | exact Or.inl (by decide +kernel) | exact Or.inr (Or.inl (by decide +kernel))); have w7 := hX.nmW (i := 7) (x := "rest") rfl (by decide +kernel); have g_range := hX.glb (x := "range") (by decide +kernel) C.b_range; have g_len := hX.glb (x := "len") (by decide +kernel) C.b_len; have d_law_sub := c_law_sub.at hX (by decide +kernel); have d_law_dot := c_law_dot.at hX (by decide +kernel)
    conv => (arg 3; whnf)
    have lf : ((free.map D.bl).map E.d).length = free.length := by rw [List.length_map, List.length_map]
    have hfl := h.fl
    have hc5 := h.cl
    have hr6 := h.rl
    refine jss_for bx (fun i s => ∃ o3, ((free.zip x).take i).all (fun p => p.1 || decide (0 ≤ p.2)) = true ∧ s = ⟨[some (.d (rwsD rows)), some (.d (bls free)), some (.d (frs x)), o3, none, none, none, none], [], 0⟩) (ji_range1 g_range ?_) (by intro _; rfl)
    walk_at "go"
    refine ⟨by rw [lf]; omega, ⟨_, by rw [List.take_zero]; rfl, rfl⟩, ?_, ?_⟩
    · rintro i v s' hi he ⟨o3, ha, rfl⟩
      obtain rfl : v = _ := he
      have hi2 : i < free.length := by rw [lf] at hi; omega
      have e1 : free[i]? = some free[i] := List.getElem?_eq_getElem hi2
      have e2 : x[i]? = some (x[i]'(by omega)) := List.getElem?_eq_getElem (by omega)
      generalize free[i] = g at e1
      generalize x[i]'(by omega) = y at e2
      have l1 : L2.atI ((free.map D.bl).map E.d) (i : Int) = some (.d (.bl g)) := L2.atI_nat (by rw [List.getElem?_map, List.getElem?_map, e1]; rfl)
      have l2 : L2.atI ((x.map frQ).map E.d) (i : Int) = some (.d (frQ y)) := L2.atI_nat (by rw [List.getElem?_map, List.getElem?_map, e2]; rfl)
      have ez := zip_get e1 e2
      have zi : (0 : Int) + i = i := Int.zero_add _
      rw [zi]
      walk_at "go"
      refine jx_seq rfl (.inl rfl) l1 ?_
      walk_at "go"
      · rename_i hb
        refine jx_seq rfl (.inl rfl) l2 ?_
        walk_at "go"
        · rename_i hb2
          have hz : lawV rows free x = false := by
            unfold lawV flagV
            rw [all_no ez (by show (g || decide (0 ≤ y)) = false; rw [decide_eq_false (fun z => by have := Rat.num_nonneg.mpr z; omega)]; simpa using hb), Bool.false_and]
          rw [hz] at k
          exact k
        · rename_i hb2
          exact ⟨_, all_nx ha ez (by show (g || decide (0 ≤ y)) = true; rw [decide_eq_true (Rat.num_nonneg.mp (by omega)), Bool.or_true]), rfl⟩
      · rename_i hb
        exact ⟨_, all_nx ha ez (by show (g || decide (0 ≤ y)) = true; rw [show g = true by simpa using hb, Bool.true_or]), rfl⟩
    · rintro s' ⟨o3, ha, rfl⟩
      have hF : flagV free x = true := by
        unfold flagV
        rw [lf, show ((free.length : Nat) : Int).toNat = (free.zip x).length by rw [List.length_zip]; omega, List.take_length] at ha
        exact ha
      have e0 : lawV rows free x = rows.all (rowV x) := by unfold lawV; rw [hF, Bool.true_and]
      rw [e0] at k
      refine jss_for bx (fun i s => ∃ o4 o5 o6 o7, (rows.take i).all (rowV x) = true ∧ s = ⟨[some (.d (rwsD rows)), some (.d (bls free)), some (.d (frs x)), o3, o4, o5, o6, o7], [], 0⟩) (ji_lst ?_) (by intro _; rfl)
      walk_at "go"
      refine ⟨⟨_, _, _, _, by rw [List.take_zero]; rfl, rfl⟩, ?_, ?_⟩
      · rintro i v s' hi ⟨d, hd, rfl⟩ ⟨o5, o6, o7, o8, hR, rfl⟩
        rw [List.getElem?_map] at hd
        cases e1 : rows[i]? with
        | none => rw [e1] at hd; cases hd
        | some q =>
          rw [e1] at hd
          cases hd
          obtain ⟨ql, qq, qb, qs⟩ := h.rw q (List.mem_of_getElem? e1)
          have no : rowV x q = false → post (.dat (.bl false)) := fun z => by rw [all_no e1 z] at k; exact k
          have yes : rowV x q = true → (rows.take (i + 1)).all (rowV x) = true := all_nx hR e1
          have dq := dot_QB (k := 250) (l := 45) (by omega) (show q.r.length = x.length by omega) qq hx
          walk_at "go"
          refine ap_dot (by omega) (by omega) qq (fun a ha => (hx a ha).mono (by decide)) ?_
          have z0 : rowV x q = (decide ((dots q.r x).sum ≤ q.b) && (!decide (q.s = sJ) || decide ((dots q.r x).sum = q.b))) := rfl
          rw [z0] at no yes
          generalize (dots q.r x).sum = dv at no yes dq
          walk_at "go"
          refine ap_op 1000 (1 + (250 + 45 + 1) * 5) qb dq (by decide) (by decide) (by decide) trivial ?_
          walk_at "go"
          · rename_i h3
            exact no (by rw [decide_eq_false (rsub_lt.mp h3)]; rfl)
          · rename_i h3 h4 h5
            exact no (by rw [decide_eq_true h4, decide_eq_false (fun z => h5 (rsub_z.mpr z))]; simp)
          · rename_i h3 h4 h5
            exact ⟨_, _, _, _, yes (by rw [decide_eq_true (Decidable.not_not.mp fun z => h3 (rsub_lt.mpr z)), decide_eq_true (rsub_z.mp h5)]; simp), rfl⟩
          · rename_i h3 h4
            exact ⟨_, _, _, _, yes (by rw [decide_eq_true (Decidable.not_not.mp fun z => h3 (rsub_lt.mpr z)), decide_eq_false h4]; rfl), rfl⟩
      · rintro s' ⟨o5, o6, o7, o8, hR, rfl⟩
        rw [List.length_map, List.take_length] at hR
        rw [hR] at k
        walk_at "go"
        exact k
theorem ok_law_holds {f : Addr} {fd : FuncData} (C : Bs2 mg) (c_law_combined : CaP P w K mg base "_law_combined" 5 R_comb) (c_law_sub : CaP P w K mg base "_law_sub" 3 R_less) (Fu : Fun K "_law_holds" "_law_holds" s_law_holds f fd) : FnOk P w K mg base CX0 6 f fd ["goal", "rows", "free", "y"] (spP K R_lhol) := by
  refine fn_P Fu sc_law_holds (fun ds post h => ?_) fun X F ds post hX hfn hH h => ?_
  · obtain ⟨_, _, _, _, _, rfl, _⟩ := h
    rfl
  · obtain ⟨goal, rows, free, y, c, rfl, h, k⟩ := h
    have bx := hX.bx
    have r0 := hX.nmR (i := 0) (x := "goal") rfl (by first | exact Or.inl (by decide +kernel) | exact Or.inr (Or.inl (by decide +kernel))); have w0 := hX.nmW (i := 0) (x := "goal") rfl (by decide +kernel); have r1 := hX.nmR (i := 1) (x := "rows") rfl (by first | exact Or.inl (by decide +kernel) | exact Or.inr (Or.inl (by decide +kernel))); have w1 := hX.nmW (i := 1) (x := "rows") rfl (by decide +kernel); have r2 := hX.nmR (i := 2) (x := "free") rfl (by first | exact Or.inl (by decide +kernel) | exact Or.inr (Or.inl (by decide +kernel))); have w2 := hX.nmW (i := 2) (x := "free") rfl (by decide +kernel); have r3 := hX.nmR (i := 3) (x := "y") rfl (by first | exact Or.inl (by decide +kernel) | exact Or.inr (Or.inl (by decide +kernel))); have w3 := hX.nmW (i := 3) (x := "y") rfl (by decide +kernel); have r4 := hX.nmR (i := 4) (x := "at") rfl (by first | exact Or.inl (by decide +kernel) | exact Or.inr (Or.inl (by decide +kernel))); have w4 := hX.nmW (i := 4) (x := "at") rfl (by decide +kernel); have r5 := hX.nmR (i := 5) (x := "found") rfl (by first | exact Or.inl (by decide +kernel) | exact Or.inr (Or.inl (by decide +kernel))); have w5 := hX.nmW (i := 5) (x := "found") rfl (by decide +kernel); have r6 := hX.nmR (i := 6) (x := "k") rfl (by first | exact Or.inl (by decide +kernel) | exact Or.inr (Or.inl (by decide +kernel))); have w6 := hX.nmW (i := 6) (x := "k") rfl (by decide +kernel); have r7 := hX.nmR (i := 7) (x := "rest") rfl (by first | exact Or.inl (by decide +kernel) | exact Or.inr (Or.inl (by decide +kernel))); have w7 := hX.nmW (i := 7) (x := "rest") rfl (by decide +kernel); have g_range := hX.glb (x := "range") (by decide +kernel) C.b_range; have g_len := hX.glb (x := "len") (by decide +kernel) C.b_len; have d_law_combined := c_law_combined.at hX (by decide +kernel); have d_law_sub := c_law_sub.at hX (by decide +kernel)
    conv => (arg 3; whnf)
    have hr6 := h.pr.rl
    have hfl := h.pr.fl
    have hgl := h.gl
    have hc5 := h.pr.cl
    have hyl := h.yl
    have lf : ((free.map D.bl).map E.d).length = c := by rw [List.length_map, List.length_map]; exact hfl
    have lR : ((rows.map rwD).map E.d).length = rows.length := by rw [List.length_map, List.length_map]
    refine jss_for bx (fun i s => ∃ o4, ((facs rows y).take i).all id = true ∧ s = ⟨[some (.d (frs goal)), some (.d (rwsD rows)), some (.d (bls free)), some (.d (frs y)), o4, none, none, none, none], [], 0⟩) (ji_range1 g_range ?_) (by intro _; rfl)
    walk_at "go"
    refine ⟨by rw [lR]; omega, ⟨_, by rw [List.take_zero]; rfl, rfl⟩, ?_, ?_⟩
    · rintro i v s' hi he ⟨o4, ha, rfl⟩
      obtain rfl : v = _ := he
      have hi2 : i < rows.length := by rw [lR] at hi; omega
      have e1 : rows[i]? = some rows[i] := List.getElem?_eq_getElem hi2
      have e2 : y[i]? = some (y[i]'(by omega)) := List.getElem?_eq_getElem (by omega)
      have qs := (h.pr.rw _ (List.mem_of_getElem? e1)).s
      generalize rows[i] = q at e1 qs
      generalize y[i]'(by omega) = u at e2
      have l1 : L2.atI ((rows.map rwD).map E.d) (i : Int) = some (.d (rwD q)) := L2.atI_nat (by rw [List.getElem?_map, List.getElem?_map, e1]; rfl)
      have l2 : L2.atI ((y.map frQ).map E.d) (i : Int) = some (.d (frQ u)) := L2.atI_nat (by rw [List.getElem?_map, List.getElem?_map, e2]; rfl)
      have ez := facs_get e1 e2
      have no : fac1 q u = false → post (.dat (.bl false)) := fun z => by unfold holV facV at k; rw [all_no ez z, Bool.false_and] at k; exact k
      have yes : fac1 q u = true → ((facs rows y).take (i + 1)).all id = true := fun z => all_nx ha ez z
      unfold fac1 at no yes
      have zi : (0 : Int) + i = i := Int.zero_add _
      rw [zi]
      walk_at "go"
      refine jx_seq rfl (.inl rfl) l1 ?_
      walk_at "go"
      · rename_i h1
        refine jx_seq rfl (.inl rfl) l2 ?_
        walk_at "go"
        · rename_i h2
          exact no (by rw [decide_eq_false (show ¬ q.s = sJ from fun z => sJM (h1.symm.trans z)), decide_eq_false (fun z => by have := Rat.num_nonneg.mpr z; omega)]; rfl)
        · rename_i h2
          exact ⟨_, yes (by rw [decide_eq_true (Rat.num_nonneg.mp (by omega)), Bool.or_true]), rfl⟩
      · rename_i h1
        exact ⟨_, yes (by rw [decide_eq_true (qs.resolve_right h1), Bool.true_or]), rfl⟩
    · rintro s' ⟨o4, ha, rfl⟩
      have hF : facV rows y = true := by
        unfold facV
        rw [lR, show ((rows.length : Nat) : Int).toNat = (facs rows y).length by rw [facs_len hyl]; omega, List.take_length] at ha
        exact ha
      unfold holV at k
      rw [hF, Bool.true_and, hfl] at k
      walk_at "go"
      refine je_cut (e1 := .d (matD (rowsR rows))) ?_ ?_
      · refine je_lcP bx (blk_ok hX (own := [("row", 8)]) (by decide +kernel)) (j := 8) (by decide) (fun Y hY => (hY.is hX).nmW rfl (by decide +kernel)) (ji_lst ?_) (by intro _; rfl)
        walk_at "go"
        refine ⟨rfl, by rw [List.length_map]; omega, fun i => frs ((rowsR rows).getD i []), ?_, ?_, rfl⟩
        · rintro i v acc hi ⟨d, hd, rfl⟩ Y hY
          rw [List.getElem?_map] at hd
          cases ex : rows[i]? with
          | none => rw [ex] at hd; cases hd
          | some q =>
            rw [ex] at hd
            cases hd
            have hg : (rowsR rows).getD i [] = q.r := getD_at (by rw [List.getElem?_map, ex]; rfl)
            have hYX := hY.is hX; have bY := hYX.bx; have r8Y := hYX.nmR (i := 8) (x := "row") rfl (by first | exact Or.inl (by decide +kernel) | exact Or.inr (Or.inl (by decide +kernel)) | exact Or.inr (Or.inr (by decide +kernel)))
            walk_at "go"
            exact ⟨by show _ = E.d (frs ((rowsR rows).getD i [])); rw [hg], rfl⟩
        · have e := range_getD frs [] (rowsR rows)
          rw [List.length_map] at e
          rw [List.length_map, e]
      walk_at "go"
      rw [lf]
      refine ap_comb h.pr.mat (by rw [List.length_map]; exact h.yl) h.yq ?_
      rw [List.length_map]
      obtain ⟨col, coq⟩ := h.pr.mat.comb (by rw [List.length_map]; exact h.yl) h.yq rows.length (by rw [List.length_map]; exact Nat.le_refl _)
      generalize comb (rowsR rows) y c rows.length = co at k col coq
      walk_at "go"
      refine jss_for bx (fun i s => ∃ o6 o7, ((free.zip (co.zip goal)).take i).all (fun p => hd1 p.1 p.2.1 p.2.2) = true ∧ s = ⟨[some (.d (frs goal)), some (.d (rwsD rows)), some (.d (bls free)), some (.d (frs y)), o4, some (.d (frs co)), o6, o7, none], [], 0⟩) (ji_range1 g_range ?_) (by intro _; rfl)
      walk_at "go"
      refine ⟨by rw [lf]; omega, ⟨_, _, by rw [List.take_zero]; rfl, rfl⟩, ?_, ?_⟩
      · rintro i v s' hi he ⟨o6, o7, ha, rfl⟩
        obtain rfl : v = _ := he
        have hi2 : i < free.length := by rw [lf] at hi; omega
        have e1 : free[i]? = some free[i] := List.getElem?_eq_getElem hi2
        have e2 : co[i]? = some (co[i]'(by omega)) := List.getElem?_eq_getElem (by omega)
        have e3 : goal[i]? = some (goal[i]'(by omega)) := List.getElem?_eq_getElem (by omega)
        generalize free[i] = g at e1
        generalize co[i]'(by omega) = x at e2
        generalize goal[i]'(by omega) = z at e3
        have l1 : L2.atI ((free.map D.bl).map E.d) (i : Int) = some (.d (.bl g)) := L2.atI_nat (by rw [List.getElem?_map, List.getElem?_map, e1]; rfl)
        have l2 : L2.atI ((co.map frQ).map E.d) (i : Int) = some (.d (frQ x)) := L2.atI_nat (by rw [List.getElem?_map, List.getElem?_map, e2]; rfl)
        have l3 : L2.atI ((goal.map frQ).map E.d) (i : Int) = some (.d (frQ z)) := L2.atI_nat (by rw [List.getElem?_map, List.getElem?_map, e3]; rfl)
        have ez := zip_get e1 (zip_get e2 e3)
        have no : hd1 g x z = false → post (.dat (.bl false)) := fun q => by unfold hdV at k; rw [all_no ez q] at k; exact k
        have yes : hd1 g x z = true → ((free.zip (co.zip goal)).take (i + 1)).all (fun p => hd1 p.1 p.2.1 p.2.2) = true := all_nx ha ez
        have zi : (0 : Int) + i = i := Int.zero_add _
        rw [zi]
        walk_at "go"
        refine jx_seq rfl (.inl rfl) l2 ?_
        walk_at "go"
        refine jx_seq rfl (.inl rfl) l3 ?_
        walk_at "go"
        refine ap_op (1 + 298 * rows.length) 250 (coq x (List.mem_of_getElem? e2)) (h.gq z (List.mem_of_getElem? e3)) (by omega) (by decide) (by omega) trivial ?_
        walk_at "go"
        · rename_i h1
          exact no (by unfold hd1; rw [decide_eq_false (rsub_lt.mp h1)]; rfl)
        · rename_i h1
          have hle := decide_eq_true (Decidable.not_not.mp fun q => h1 (rsub_lt.mpr q))
          refine jx_seq rfl (.inl rfl) l1 ?_
          walk_at "go"
          · rename_i h2 h3
            exact no (by unfold hd1; rw [h2, decide_eq_false (show ¬ x = z from fun q => h3 (rsub_z.mpr q.symm))]; simp)
          · rename_i h2 h3
            exact ⟨_, _, yes (by unfold hd1; rw [hle, decide_eq_true (rsub_z.mp h3).symm]; simp), rfl⟩
          · rename_i h2
            exact ⟨_, _, yes (by unfold hd1; rw [hle, h2]; rfl), rfl⟩
      · rintro s' ⟨o6, o7, ha, rfl⟩
        rw [lf, show ((c : Nat) : Int).toNat = (free.zip (co.zip goal)).length by rw [List.length_zip, List.length_zip]; omega, List.take_length] at ha
        have hz : hdV free co goal = true := ha
        rw [hz] at k
        walk_at "go"
        exact k
end
theorem pos_div {p q : Int} (h1 : 0 < p) (h2 : 0 < q) : 0 < Rat.divInt p q := by
  refine Rat.lt_of_le_of_ne (Rat.divInt_nonneg (Int.le_of_lt h1) (Int.le_of_lt h2)) fun z => ?_
  have e : Rat.divInt p q = Rat.divInt 0 1 := z.symm
  have := (Rat.divInt_eq_divInt_iff (show q ≠ 0 by omega) (by decide)).mp e
  omega
def R_val : RP := fun ds post => ∃ (rows : List Rw) (y : List Rat), ds = [rwsD rows, frs y] ∧ rows.length ≤ 6 ∧ y.length = rows.length ∧ (∀ q ∈ rows, QB 250 q.b) ∧ (∀ a ∈ y, QB 45 a) ∧ post (.dat (frQ (valV rows y)))
theorem ap_val {rows : List Rw} {y : List Rat} {post : Rt → Prop} (h : rows.length ≤ 6) (hl : y.length = rows.length) (hb : ∀ q ∈ rows, QB 250 q.b) (hy : ∀ a ∈ y, QB 45 a) (q : post (.dat (frQ (valV rows y)))) : R_val [rwsD rows, frs y] post := ⟨rows, y, rfl, h, hl, hb, hy, q⟩
theorem mo_val : MonoP R_val := fun ds p q m ⟨a, b, c, d, e, f, g, h⟩ => ⟨a, b, c, d, e, f, g, m _ h⟩
def R_copied : RP := fun ds post => ∃ (goal : List Rat) (rows : List Rw) (free : List Bool), ds = [frs goal, rwsD rows, bls free] ∧ rows.length ≤ 6 ∧ post (.dat (.nd .lst [frs goal, rwsD rows, bls free]))
theorem ap_copied {goal : List Rat} {rows : List Rw} {free : List Bool} {post : Rt → Prop} (h : rows.length ≤ 6) (q : post (.dat (.nd .lst [frs goal, rwsD rows, bls free]))) : R_copied [frs goal, rwsD rows, bls free] post := ⟨goal, rows, free, rfl, h, q⟩
theorem mo_copied : MonoP R_copied := fun ds p q m ⟨a, b, c, d, e, h⟩ => ⟨a, b, c, d, e, m _ h⟩
def R_pos : RC1 := fun kd cds ds post => kd = .lst ∧ PoolD cds ∧ ds = [] ∧ ∀ (x : Rat) cds', QB 4 x → 0 < x → PoolD cds' → post (.dat (frQ x)) .lst cds'
theorem ap_pos {cds : List D} {post : Rt → Kd → List D → Prop} (hp : PoolD cds) (h : ∀ (x : Rat) cds', QB 4 x → 0 < x → PoolD cds' → post (.dat (frQ x)) .lst cds') : R_pos .lst cds [] post := ⟨rfl, hp, rfl, h⟩
theorem mo_pos : MonoC R_pos := fun kd cds ds p q m ⟨a, b, c, h⟩ => ⟨a, b, c, fun v r h1 h2 h3 => m _ _ _ (h v r h1 h2 h3)⟩
section
variable {P : Program} {w : World} {K : PySem.W.Frag} {mg : Str → Option Value} {base : Heap}
theorem ok_law_value {f : Addr} {fd : FuncData} (C : Bs2 mg) (c_law_dot : CaP P w K mg base "_law_dot" 4 R_dot) (Fu : Fun K "_law_value" "_law_value" s_law_value f fd) : FnOk P w K mg base CX0 5 f fd ["rows", "y"] (spP K R_val) := by
  refine fn_P Fu sc_law_value (fun ds post h => ?_) fun X F ds post hX hfn hH h => ?_
  · obtain ⟨_, _, rfl, _⟩ := h
    rfl
  · obtain ⟨rows, y, rfl, hr, hl, hb, hy, k⟩ := h
    have bx := hX.bx
    have r0 := hX.nmR (i := 0) (x := "rows") rfl (by first | exact Or.inl (by decide +kernel) | exact Or.inr (Or.inl (by decide +kernel))); have w0 := hX.nmW (i := 0) (x := "rows") rfl (by decide +kernel); have r1 := hX.nmR (i := 1) (x := "y") rfl (by first | exact Or.inl (by decide +kernel) | exact Or.inr (Or.inl (by decide +kernel))); have w1 := hX.nmW (i := 1) (x := "y") rfl (by decide +kernel); have d_law_dot := c_law_dot.at hX (by decide +kernel)
    conv => (arg 3; whnf)
    walk_at "go"
    refine je_cut (e1 := .d (frs (rowsB rows))) ?_ ?_
    · refine je_lcP bx (blk_ok hX (own := [("row", 2)]) (by decide +kernel)) (j := 2) (by decide) (fun Y hY => (hY.is hX).nmW rfl (by decide +kernel)) (ji_lst ?_) (by intro _; rfl)
      walk_at "go"
      refine ⟨rfl, by rw [List.length_map]; omega, fun i => frQ ((rowsB rows).getD i 0), ?_, ?_, rfl⟩
      · rintro i v acc hi ⟨d, hd, rfl⟩ Y hY
        rw [List.getElem?_map] at hd
        cases ex : rows[i]? with
        | none => rw [ex] at hd; cases hd
        | some q =>
          rw [ex] at hd
          cases hd
          have hg : (rowsB rows).getD i 0 = q.b := getD_at (by rw [List.getElem?_map, ex]; rfl)
          have hYX := hY.is hX; have bY := hYX.bx; have r2Y := hYX.nmR (i := 2) (x := "row") rfl (by first | exact Or.inl (by decide +kernel) | exact Or.inr (Or.inl (by decide +kernel)) | exact Or.inr (Or.inr (by decide +kernel)))
          walk_at "go"
          exact ⟨by show _ = E.d (frQ ((rowsB rows).getD i 0)); rw [hg], rfl⟩
      · have e := range_getD frQ 0 (rowsB rows)
        rw [List.length_map] at e
        rw [List.length_map, e]
    walk_at "go"
    refine ap_dot (by rw [List.length_map]; omega) (by rw [List.length_map]; omega) (fun b h => by
      obtain ⟨q, hq, rfl⟩ := List.mem_map.mp h
      exact hb q hq) (fun a ha => (hy a ha).mono (by decide)) ?_
    walk_at "go"
    exact k
theorem ok_law_copied {f : Addr} {fd : FuncData} (C : Bs2 mg) (Fu : Fun K "_law_copied" "_law_copied" s_law_copied f fd) : FnOk P w K mg base CX0 1 f fd ["goal", "rows", "free"] (spP K R_copied) := by
  refine fn_P Fu sc_law_copied (fun ds post h => ?_) fun X F ds post hX hfn hH h => ?_
  · obtain ⟨_, _, _, rfl, _⟩ := h
    rfl
  · obtain ⟨goal, rows, free, rfl, hr, k⟩ := h
    have bx := hX.bx
    have r0 := hX.nmR (i := 0) (x := "goal") rfl (by first | exact Or.inl (by decide +kernel) | exact Or.inr (Or.inl (by decide +kernel))); have w0 := hX.nmW (i := 0) (x := "goal") rfl (by decide +kernel); have r1 := hX.nmR (i := 1) (x := "rows") rfl (by first | exact Or.inl (by decide +kernel) | exact Or.inr (Or.inl (by decide +kernel))); have w1 := hX.nmW (i := 1) (x := "rows") rfl (by decide +kernel); have r2 := hX.nmR (i := 2) (x := "free") rfl (by first | exact Or.inl (by decide +kernel) | exact Or.inr (Or.inl (by decide +kernel))); have w2 := hX.nmW (i := 2) (x := "free") rfl (by decide +kernel); have g_list := hX.glb (x := "list") (by decide +kernel) C.b_list
    conv => (arg 3; whnf)
    refine jss_ret (je_lst (ja_cons (je_cut (e1 := .d (frs goal)) ?_ (ja_cons (je_cut (e1 := .d (rwsD rows)) ?_ (ja_cons (je_cut (e1 := .d (bls free)) ?_ ?_) (by rfl))) (by rfl))) (by rfl)))
    · walk_at "go"
      exact ⟨.lst, goal.map frQ, rfl, .inl rfl, rfl, rfl⟩
    · refine je_lcP bx (blk_ok hX (own := [("row", 3)]) (by decide +kernel)) (j := 3) (by decide) (fun Y hY => (hY.is hX).nmW rfl (by decide +kernel)) (ji_lst ?_) (by intro _; rfl)
      walk_at "go"
      refine ⟨rfl, by rw [List.length_map]; omega, fun i => rwD (rows.getD i ⟨[], sJ, 0⟩), ?_, ?_, rfl⟩
      · rintro i v acc hi ⟨d, hd, rfl⟩ Y hY
        rw [List.getElem?_map] at hd
        cases ex : rows[i]? with
        | none => rw [ex] at hd; cases hd
        | some q =>
          rw [ex] at hd
          cases hd
          have hg : rows.getD i ⟨[], sJ, 0⟩ = q := getD_at ex
          have hYX := hY.is hX; have bY := hYX.bx; have g_listY := hYX.glb (x := "list") (by decide +kernel) C.b_list; have r3Y := hYX.nmR (i := 3) (x := "row") rfl (by first | exact Or.inl (by decide +kernel) | exact Or.inr (Or.inl (by decide +kernel)) | exact Or.inr (Or.inr (by decide +kernel)))
          walk_at "go"
          refine ⟨.lst, q.r.map frQ, rfl, .inl rfl, ?_⟩
          walk_at "go"
          exact ⟨by show _ = E.d (rwD (rows.getD i ⟨[], sJ, 0⟩)); rw [hg], rfl⟩
      · have e := range_getD rwD ⟨[], sJ, 0⟩ rows
        rw [List.length_map, e]
    · walk_at "go"
      exact ⟨.lst, free.map D.bl, rfl, .inl rfl, rfl, rfl⟩
    walk_at "go"
    exact k
theorem ok_law_positive {f : Addr} {fd : FuncData} (C : Bs2 mg) (c_law_draw : CaC P w K mg base "_law_draw" 3 R_draw) (c_law_ratio : CaP P w K mg base "_law_ratio" 2 R_ratQ) (Fu : Fun K "_law_positive" "_law_positive" s_law_positive f fd) : FnOk P w K mg base CX0 4 f fd ["pool"] (spC K R_pos) := by
  refine fn_C Fu sc_law_positive (fun kd cds ds post h => ?_) fun X F kd cds ds post hX hfn hH h => ?_
  · obtain ⟨_, _, rfl, _⟩ := h
    rfl
  · obtain ⟨rfl, hp, rfl, k⟩ := h
    have bx := hX.bx
    have r0 := hX.nmR (i := 0) (x := "pool") rfl (by first | exact Or.inl (by decide +kernel) | exact Or.inr (Or.inl (by decide +kernel))); have w0 := hX.nmW (i := 0) (x := "pool") rfl (by decide +kernel); have d_law_ratio := c_law_ratio.at hX (by decide +kernel); have d_law_draw := c_law_draw.at hX (by decide +kernel)
    conv => (arg 3; whnf)
    walk_at "go"
    refine ap_draw hp (lim_of (by decide) (by decide)) fun a cds2 a0 a1 hp2 => ?_
    refine rtΦ_dat ?_
    walk_at "go"
    refine ap_draw hp2 (lim_of (by decide) (by decide)) fun b cds3 b0 b1 hp3 => ?_
    refine rtΦ_dat ?_
    walk_at "go"
    have q1 : Bd 4 (1 + a) := by unfold Bd; omega
    have q2 : Bd 4 (1 + b) := by unfold Bd; omega
    refine ap_ratQ (by omega) (q1.mono (by decide)) (q2.mono (by decide)) ?_
    refine rtX_P (rtΦ_dat ?_) rfl
    exact ⟨.lst, _, _, rfl, dsOf_map _, k _ _ (QB.div q1 q2 (by omega)) (pos_div (by omega) (by omega)) hp3⟩
end
/-! sums of rows: plain -/
theorem dots_cons (a : Rat) (xs : List Rat) (b : Rat) (ys : List Rat) : (dots (a :: xs) (b :: ys)).sum = a * b + (dots xs ys).sum := by
  unfold dots
  rw [List.zipWith_cons_cons, List.sum_cons]
theorem dots_nil (ys : List Rat) : (dots [] ys).sum = 0 := by unfold dots; rfl
theorem dots_stp : ∀ {a r x : List Rat} {f : Rat}, a.length = r.length → r.length = x.length → (dots (stp a r f) x).sum = (dots a x).sum + f * (dots r x).sum
  | [], [], _, f, _, _ => by
    show (dots [] _).sum = (dots [] _).sum + f * (dots [] _).sum
    rw [dots_nil]; grind
  | a :: as, r :: rs, x :: xs, f, h1, h2 => by
    have ih := dots_stp (a := as) (r := rs) (x := xs) (f := f) (by simpa using h1) (by simpa using h2)
    have e : stp (a :: as) (r :: rs) f = (a + f * r) :: stp as rs f := rfl
    rw [e, dots_cons, dots_cons, dots_cons, ih]
    grind
  | [], r :: rs, _, _, h, _ => by simp at h
  | a :: as, [], _, _, h, _ => by simp at h
  | a :: as, r :: rs, [], _, _, h => by simp at h
theorem dots_rep (c : Nat) (x : List Rat) : (dots (List.replicate c 0) x).sum = 0 := by
  induction c generalizing x with
  | zero => exact dots_nil x
  | succ c ih =>
    cases x with
    | nil => unfold dots; rw [List.zipWith_nil_right]; rfl
    | cons b x => rw [List.replicate_succ, dots_cons, ih]; grind
theorem comb_len {R : List (List Rat)} {fs : List Rat} {c : Nat} (hl : fs.length = R.length) (hR : ∀ r ∈ R, r.length = c) : ∀ i, i ≤ R.length → (comb R fs c i).length = c
  | 0, _ => by rw [comb_0]; exact List.length_replicate
  | i + 1, hi => by
    have ih := comb_len hl hR i (by omega)
    have e1 : R[i]? = some R[i] := List.getElem?_eq_getElem (by omega)
    have e2 : fs[i]? = some (fs[i]'(by omega)) := List.getElem?_eq_getElem (by omega)
    rw [comb_s e1 e2, stp_len (by rw [ih, hR _ (List.mem_of_getElem? e1)]), ih]
/-- the combination times x: the factors times the rows' products -/
theorem dots_comb {R : List (List Rat)} {fs x : List Rat} {c : Nat} (hl : fs.length = R.length) (hR : ∀ r ∈ R, r.length = c) (hx : x.length = c) : ∀ i, i ≤ R.length → (dots (comb R fs c i) x).sum = ((dots (R.map fun r => (dots r x).sum) fs).take i).sum
  | 0, _ => by rw [comb_0, dots_rep, List.take_zero]; rfl
  | i + 1, hi => by
    have ih := dots_comb hl hR hx i (by omega)
    have e1 : R[i]? = some R[i] := List.getElem?_eq_getElem (by omega)
    have e2 : fs[i]? = some (fs[i]'(by omega)) := List.getElem?_eq_getElem (by omega)
    have hr := hR _ (List.mem_of_getElem? e1)
    generalize R[i] = r at e1 hr
    generalize fs[i]'(by omega) = f at e2
    have e3 : (dots (R.map fun r => (dots r x).sum) fs)[i]? = some ((dots r x).sum * f) := dots_get (by rw [List.getElem?_map, e1]; rfl) e2
    rw [comb_s e1 e2, dots_stp (by rw [comb_len hl hR i (by omega), hr]) (by rw [hr, hx]), ih, sum_take e3]
    grind
theorem dots_ext : ∀ {a b x : List Rat}, a.length = b.length → (∀ (k : Nat) p q u, a[k]? = some p → b[k]? = some q → x[k]? = some u → p * u = q * u) → (dots a x).sum = (dots b x).sum
  | [], [], _, _, _ => rfl
  | p :: as, q :: bs, [], _, _ => by unfold dots; rw [List.zipWith_nil_right, List.zipWith_nil_right]
  | p :: as, q :: bs, u :: xs, hl, h => by
    rw [dots_cons, dots_cons, dots_ext (a := as) (b := bs) (x := xs) (by simpa using hl) fun k p q u h1 h2 h3 => h (k + 1) p q u h1 h2 h3, h 0 p q u rfl rfl rfl]
  | [], _ :: _, _, h, _ => by simp at h
  | _ :: _, [], _, h, _ => by simp at h
theorem dots_set : ∀ {a x : List Rat} {k : Nat} {p u v : Rat}, a[k]? = some p → x[k]? = some u → (dots (a.set k v) x).sum = (dots a x).sum + (v - p) * u
  | [], _, _, _, _, _, h, _ => by simp at h
  | _ :: _, [], _, _, _, _, _, h => by simp at h
  | a :: as, x :: xs, 0, p, u, v, h1, h2 => by
    cases h1; cases h2
    rw [List.set_cons_zero, dots_cons, dots_cons]
    grind
  | a :: as, x :: xs, k + 1, p, u, v, h1, h2 => by
    rw [List.set_cons_succ, dots_cons, dots_cons, dots_set (a := as) (x := xs) (k := k) h1 h2]
    grind
theorem dots_snoc : ∀ {a x : List Rat} {p u : Rat}, a.length = x.length → (dots (a ++ [p]) (x ++ [u])).sum = (dots a x).sum + p * u
  | [], [], p, u, _ => by
    show (dots [p] [u]).sum = (dots [] []).sum + p * u
    rw [dots_cons, dots_nil]; grind
  | a :: as, x :: xs, p, u, h => by
    rw [List.cons_append, List.cons_append, dots_cons, dots_cons, dots_snoc (a := as) (x := xs) (by simpa using h)]
    grind
  | [], _ :: _, _, _, h => by simp at h
  | _ :: _, [], _, _, h => by simp at h
theorem comb_app {R : List (List Rat)} {fs : List Rat} {r : List Rat} {f : Rat} {c : Nat} (hl : fs.length = R.length) : comb (R ++ [r]) (fs ++ [f]) c (R.length + 1) = stp (comb R fs c R.length) r f := by
  have e1 : (R ++ [r])[R.length]? = some r := by rw [List.getElem?_append_right (Nat.le_refl _)]; simp
  have e2 : (fs ++ [f])[R.length]? = some f := by rw [List.getElem?_append_right (by omega)]; simp [hl]
  rw [comb_s e1 e2]
  congr 1
  unfold comb
  rw [List.zip_append hl.symm, List.take_append_of_le_length (by rw [List.length_zip]; omega)]
/-- best: row by row -/
structure BR (x : List Rat) (q : Rw) (v : Rat) : Prop where
  le : (dots q.r x).sum ≤ q.b
  eq : q.s = sJ → (dots q.r x).sum = q.b
  f : fac1 q v = true
  z : v = 0 ∨ (dots q.r x).sum = q.b
theorem BR.row {x : List Rat} {q : Rw} {v : Rat} (h : BR x q v) : rowV x q = true := by
  unfold rowV
  rw [decide_eq_true h.le]
  by_cases e : q.s = sJ
  · rw [decide_eq_true (h.eq e)]; simp
  · rw [decide_eq_false e]; rfl
theorem facV_of {rows : List Rw} {y : List Rat} (h : ∀ (i : Nat) q v, rows[i]? = some q → y[i]? = some v → fac1 q v = true) : facV rows y = true := by
  unfold facV
  rw [List.all_eq_true]
  intro b hb
  obtain ⟨i, hi⟩ := List.getElem?_of_mem hb
  unfold facs at hi
  rw [List.getElem?_zipWith] at hi
  cases e1 : rows[i]? with
  | none => rw [e1] at hi; cases hi
  | some q =>
    cases e2 : y[i]? with
    | none => rw [e1, e2] at hi; cases hi
    | some v =>
      rw [e1, e2] at hi
      cases hi
      exact h i q v e1 e2
theorem hdV_of {fs : List Bool} {xs gs : List Rat} (h : ∀ (i : Nat) f x g, fs[i]? = some f → xs[i]? = some x → gs[i]? = some g → hd1 f x g = true) : hdV fs xs gs = true := by
  unfold hdV
  rw [List.all_eq_true]
  rintro ⟨f, x, g⟩ hb
  obtain ⟨i, hi⟩ := List.getElem?_of_mem hb
  rw [List.getElem?_zip_eq_some, List.getElem?_zip_eq_some] at hi
  exact h i f x g hi.1 hi.2.1 hi.2.2
theorem flagV_of {fs : List Bool} {xs : List Rat} (h : ∀ (i : Nat) f x, fs[i]? = some f → xs[i]? = some x → f = true ∨ 0 ≤ x) : flagV fs xs = true := by
  unfold flagV
  rw [List.all_eq_true]
  rintro ⟨f, x⟩ hb
  obtain ⟨i, hi⟩ := List.getElem?_of_mem hb
  rw [List.getElem?_zip_eq_some] at hi
  rcases h i f x hi.1 hi.2 with e | e
  · show (f || _) = true
    rw [e]; rfl
  · show (f || decide (0 ≤ x)) = true
    rw [decide_eq_true e, Bool.or_true]
/-- a goal's number at a column -/
def GOk (f : Bool) (a o g : Rat) : Prop := g = o ∨ (f = false ∧ a = 0 ∧ g ≤ o)
theorem best_ok {goal : List Rat} {rows : List Rw} {free : List Bool} {x y : List Rat} {c : Nat} (hr : ∀ q ∈ rows, q.r.length = c) (hf : free.length = c) (hx : x.length = c) (hy : y.length = rows.length) (hg : goal.length = c)
    (hB : ∀ (i : Nat) q v, rows[i]? = some q → y[i]? = some v → BR x q v) (hF : ∀ (i : Nat) f a, free[i]? = some f → x[i]? = some a → f = true ∨ 0 ≤ a)
    (hG : ∀ (i : Nat) f a o g, free[i]? = some f → x[i]? = some a → (comb (rowsR rows) y c rows.length)[i]? = some o → goal[i]? = some g → GOk f a o g) : bestV goal rows free x y = true := by
  have hRl : (rowsR rows).length = rows.length := List.length_map _
  have hR : ∀ r ∈ rowsR rows, r.length = c := fun r h => by
    obtain ⟨q, hq, rfl⟩ := List.mem_map.mp h
    exact hr q hq
  have cl := comb_len (R := rowsR rows) (fs := y) (c := c) (by rw [hRl, hy]) hR rows.length (by omega)
  have dc := dots_comb (R := rowsR rows) (fs := y) (x := x) (c := c) (by rw [hRl, hy]) hR hx rows.length (by omega)
  have h1 : lawV rows free x = true := by
    unfold lawV
    rw [flagV_of hF, Bool.true_and, List.all_eq_true]
    intro q hq
    obtain ⟨i, hi⟩ := List.getElem?_of_mem hq
    have hil := (List.getElem?_eq_some_iff.mp hi).1
    exact (hB i q _ hi (List.getElem?_eq_getElem (show i < y.length by omega))).row
  have h2 : facV rows y = true := facV_of fun i q v a b => (hB i q v a b).f
  have h3 : hdV free (comb (rowsR rows) y c rows.length) goal = true := hdV_of fun i f o g a b e => by
    have hil := (List.getElem?_eq_some_iff.mp a).1
    have ex : x[i]? = some (x[i]'(by omega)) := List.getElem?_eq_getElem (by omega)
    unfold hd1
    rcases hG i f _ o g a ex b e with z | ⟨z1, z2, z3⟩
    · rw [z, decide_eq_true (Rat.le_refl), decide_eq_true rfl]; simp
    · rw [decide_eq_true z3, z1]; rfl
  have h4 : valV rows y = (dots goal x).sum := by
    have e1 : (dots goal x).sum = (dots (comb (rowsR rows) y c rows.length) x).sum := dots_ext (by rw [hg, cl]) fun k p q u a b e => by
      have hil := (List.getElem?_eq_some_iff.mp e).1
      have ef : free[k]? = some (free[k]'(by omega)) := List.getElem?_eq_getElem (by omega)
      rcases hG k _ u q p ef e b a with z | ⟨_, z2, _⟩
      · rw [z]
      · rw [z2, Rat.mul_zero, Rat.mul_zero]
    have dl : (dots ((rowsR rows).map fun r => (dots r x).sum) y).length = rows.length := by rw [dots_len (by rw [List.length_map, hRl, hy]), List.length_map, hRl]
    rw [e1, dc, show rows.length = (dots ((rowsR rows).map fun r => (dots r x).sum) y).length from dl.symm, List.take_length]
    refine dots_ext (by rw [List.length_map, List.length_map, List.length_map]) fun k p q u a b e => ?_
    rw [List.getElem?_map] at a
    rw [List.getElem?_map, List.getElem?_map] at b
    cases er : rows[k]? with
    | none => rw [er] at a; cases a
    | some w =>
      rw [er] at a b
      cases a; cases b
      rcases (hB k w u er e).z with z | z
      · rw [z, Rat.mul_zero, Rat.mul_zero]
      · show w.b * u = (dots w.r x).sum * u
        rw [z]
  unfold bestV holV
  rw [hf, h1, h2, h3, decide_eq_true hx, decide_eq_true hy, decide_eq_true h4]
  rfl
theorem app_get {α : Type} {l : List α} {a b : α} {i : Nat} (h : (l ++ [a])[i]? = some b) : l[i]? = some b ∨ (i = l.length ∧ b = a) := by
  by_cases hi : i < l.length
  · rw [List.getElem?_append_left hi] at h; exact .inl h
  · have hl := (List.getElem?_eq_some_iff.mp h).1
    rw [List.length_append] at hl
    have : i = l.length := by simp at hl; omega
    subst this
    rw [List.getElem?_append_right (Nat.le_refl _)] at h
    simp at h
    exact .inr ⟨rfl, h.symm⟩
theorem none_ok {goal : List Rat} {rows : List Rw} {free : List Bool} {ys : List Rat} {q : Rw} {p : Rat} {c : Nat} (hr : ∀ q ∈ rows, q.r.length = c) (hf : free.length = c) (hy : ys.length = rows.length) (hg : goal.length = c) (hq : q.r.length = c)
    (hF : ∀ (i : Nat) q v, rows[i]? = some q → ys[i]? = some v → fac1 q v = true) (hp : 0 < p) (hb : q.b = 0 - (valV rows ys + p))
    (hm : ∀ (i : Nat) f o a, free[i]? = some f → (comb (rowsR rows) ys c rows.length)[i]? = some o → q.r[i]? = some a → ∃ m : Rat, a = m - o ∧ 0 ≤ m ∧ (f = true → m = 0)) : noneV goal (rows ++ [q]) free (ys ++ [1]) = true := by
  have hRl : (rowsR rows).length = rows.length := List.length_map _
  have hR : ∀ r ∈ rowsR rows, r.length = c := fun r h => by
    obtain ⟨q, hq, rfl⟩ := List.mem_map.mp h
    exact hr q hq
  have cl := comb_len (R := rowsR rows) (fs := ys) (c := c) (by rw [hRl, hy]) hR rows.length (by omega)
  have h0 : (ys ++ [1]).length = (rows ++ [q]).length := by rw [List.length_append, List.length_append, hy]; rfl
  have h1 : facV (rows ++ [q]) (ys ++ [1]) = true := facV_of fun i w v a b => by
    rcases app_get a with a | ⟨a1, a2⟩
    · have hil := (List.getElem?_eq_some_iff.mp a).1
      rw [List.getElem?_append_left (by omega)] at b
      exact hF i w v a b
    · have hv : v = 1 := by
        rcases app_get b with b | ⟨_, b⟩
        · have hil := (List.getElem?_eq_some_iff.mp b).1
          omega
        · exact b
      unfold fac1
      rw [hv]
      rw [show decide ((0 : Rat) ≤ 1) = true from by decide]; simp
  have ec : comb (rowsR (rows ++ [q])) (ys ++ [1]) c (rows ++ [q]).length = stp (comb (rowsR rows) ys c rows.length) q.r 1 := by
    have := comb_app (R := rowsR rows) (fs := ys) (r := q.r) (f := 1) (c := c) (by rw [hRl, hy])
    rw [hRl] at this
    rw [show rowsR (rows ++ [q]) = rowsR rows ++ [q.r] by unfold rowsR; rw [List.map_append]; rfl, show (rows ++ [q]).length = rows.length + 1 by rw [List.length_append]; rfl]
    exact this
  have h2 : hdV free (comb (rowsR (rows ++ [q])) (ys ++ [1]) c (rows ++ [q]).length) (List.replicate goal.length 0) = true := hdV_of fun i f x g a b e => by
    have hil := (List.getElem?_eq_some_iff.mp a).1
    rw [ec] at b
    have eo : (comb (rowsR rows) ys c rows.length)[i]? = some ((comb (rowsR rows) ys c rows.length)[i]'(by omega)) := List.getElem?_eq_getElem (by omega)
    have eq : q.r[i]? = some (q.r[i]'(by omega)) := List.getElem?_eq_getElem (by omega)
    generalize (comb (rowsR rows) ys c rows.length)[i]'(by omega) = o at eo
    generalize q.r[i]'(by omega) = u at eq
    rw [stp_get eo eq] at b
    cases b
    obtain ⟨m, m1, m2, m3⟩ := hm i f o u a eo eq
    have hg0 : g = 0 := List.eq_of_mem_replicate (List.mem_of_getElem? e)
    have ex : o + 1 * u = m := by rw [m1]; grind
    unfold hd1
    rw [ex, hg0, decide_eq_true m2]
    cases f with
    | false => rfl
    | true => rw [m3 rfl]; decide
  have h3 : valV (rows ++ [q]) (ys ++ [1]) < 0 := by
    unfold valV
    rw [show rowsB (rows ++ [q]) = rowsB rows ++ [q.b] by unfold rowsB; rw [List.map_append]; rfl, dots_snoc (by rw [List.length_map, hy]), hb]
    have e : (dots (rowsB rows) ys).sum = valV rows ys := rfl
    rw [e]
    have e2 : valV rows ys + (0 - (valV rows ys + p)) * 1 = -p := by grind
    rw [e2]
    grind
  unfold noneV holV
  rw [hf, h1, h2, decide_eq_true h0, decide_eq_true h3]
  rfl
theorem row_ok {x : List Rat} {q : Rw} (h1 : (dots q.r x).sum ≤ q.b) (h2 : q.s = sJ → (dots q.r x).sum = q.b) : rowV x q = true := by
  unfold rowV
  rw [decide_eq_true h1]
  by_cases e : q.s = sJ
  · rw [decide_eq_true (h2 e)]; simp
  · rw [decide_eq_false e]; rfl
theorem end_ok {goal : List Rat} {rows : List Rw} {free : List Bool} {x r : List Rat} (hx : x.length = free.length) (hr : r.length = free.length)
    (h1 : ∀ q ∈ rows, (dots q.r x).sum ≤ q.b ∧ (q.s = sJ → (dots q.r x).sum = q.b) ∧ (dots q.r r).sum ≤ 0 ∧ (q.s = sJ → (dots q.r r).sum = 0))
    (hF : ∀ (i : Nat) f a, free[i]? = some f → x[i]? = some a → f = true ∨ 0 ≤ a) (hG : ∀ (i : Nat) f a, free[i]? = some f → r[i]? = some a → f = true ∨ 0 ≤ a) (hp : 0 < (dots goal r).sum) : endV goal rows free x r = true := by
  have a1 : lawV rows free x = true := by
    unfold lawV
    rw [flagV_of hF, Bool.true_and, List.all_eq_true]
    intro q hq
    exact row_ok (h1 q hq).1 (h1 q hq).2.1
  have a2 : lawV (rayR rows) free r = true := by
    unfold lawV
    rw [flagV_of hG, Bool.true_and, List.all_eq_true]
    intro w hw
    obtain ⟨q, hq, rfl⟩ := List.mem_map.mp hw
    exact row_ok (h1 q hq).2.2.1 (h1 q hq).2.2.2
  unfold endV
  rw [a1, a2, decide_eq_true hx, decide_eq_true hr, decide_eq_true hp]
  rfl
abbrev mdD (goal : List Rat) (rows : List Rw) (free : List Bool) (x : D) (y : List Rat) : D := .nd .lst [frs goal, rwsD rows, bls free, x, frs y]
def R_due : RP := fun ds post => ∃ (goal : List Rat) (rows : List Rw) (free : List Bool) (x y : List Rat) (c : Nat),
  (ds = [.str "none", mdD goal rows free .non y] ∧ Md 250 c goal rows free [] y ∧ post (.dat (.bl (noneV goal rows free y)))) ∨
  (ds = [.str "best", mdD goal rows free (frs x) y] ∧ Md 250 c goal rows free x y ∧ post (.dat (.bl (bestV goal rows free x y)))) ∨
  (ds = [.str "endless", mdD goal rows free (frs x) y] ∧ Md 1000 c goal rows free x y ∧ post (.dat (.bl (endV goal rows free x y))))
theorem mo_due : MonoP R_due := fun ds p q m ⟨a, b, c, d, e, f, h⟩ => ⟨a, b, c, d, e, f, by
  rcases h with ⟨h1, h2, h3⟩ | ⟨h1, h2, h3⟩ | ⟨h1, h2, h3⟩
  · exact .inl ⟨h1, h2, m _ h3⟩
  · exact .inr (.inl ⟨h1, h2, m _ h3⟩)
  · exact .inr (.inr ⟨h1, h2, m _ h3⟩)⟩
section
variable {P : Program} {w : World} {K : PySem.W.Frag} {mg : Str → Option Value} {base : Heap}
theorem ok_law_due {f : Addr} {fd : FuncData} (C : Bs2 mg) (c_law_holds : CaP P w K mg base "_law_holds" 6 R_lhol) (c_law_value : CaP P w K mg base "_law_value" 5 R_val) (c_law_lawful : CaP P w K mg base "_law_lawful" 5 R_llaw) (c_law_dot : CaP P w K mg base "_law_dot" 4 R_dot) (Fu : Fun K "_law_due" "_law_due" s_law_due f fd) : FnOk P w K mg base CX0 7 f fd ["word", "made"] (spP K R_due) := by
  refine fn_P Fu sc_law_due (fun ds post h => ?_) fun X F ds post hX hfn hH h => ?_
  · obtain ⟨_, _, _, _, _, _, ⟨rfl, _⟩ | ⟨rfl, _⟩ | ⟨rfl, _⟩⟩ := h <;> rfl
  · obtain ⟨goal, rows, free, x, y, c, ⟨rfl, h, k⟩ | ⟨rfl, h, k⟩ | ⟨rfl, h, k⟩⟩ := h
    · have bx := hX.bx
      have r0 := hX.nmR (i := 0) (x := "word") rfl (by first | exact Or.inl (by decide +kernel) | exact Or.inr (Or.inl (by decide +kernel))); have w0 := hX.nmW (i := 0) (x := "word") rfl (by decide +kernel); have r1 := hX.nmR (i := 1) (x := "made") rfl (by first | exact Or.inl (by decide +kernel) | exact Or.inr (Or.inl (by decide +kernel))); have w1 := hX.nmW (i := 1) (x := "made") rfl (by decide +kernel); have r2 := hX.nmR (i := 2) (x := "goal") rfl (by first | exact Or.inl (by decide +kernel) | exact Or.inr (Or.inl (by decide +kernel))); have w2 := hX.nmW (i := 2) (x := "goal") rfl (by decide +kernel); have r3 := hX.nmR (i := 3) (x := "rows") rfl (by first | exact Or.inl (by decide +kernel) | exact Or.inr (Or.inl (by decide +kernel))); have w3 := hX.nmW (i := 3) (x := "rows") rfl (by decide +kernel); have r4 := hX.nmR (i := 4) (x := "free") rfl (by first | exact Or.inl (by decide +kernel) | exact Or.inr (Or.inl (by decide +kernel))); have w4 := hX.nmW (i := 4) (x := "free") rfl (by decide +kernel); have r5 := hX.nmR (i := 5) (x := "first") rfl (by first | exact Or.inl (by decide +kernel) | exact Or.inr (Or.inl (by decide +kernel))); have w5 := hX.nmW (i := 5) (x := "first") rfl (by decide +kernel); have r6 := hX.nmR (i := 6) (x := "second") rfl (by first | exact Or.inl (by decide +kernel) | exact Or.inr (Or.inl (by decide +kernel))); have w6 := hX.nmW (i := 6) (x := "second") rfl (by decide +kernel); have r7 := hX.nmR (i := 7) (x := "zeros") rfl (by first | exact Or.inl (by decide +kernel) | exact Or.inr (Or.inl (by decide +kernel))); have w7 := hX.nmW (i := 7) (x := "zeros") rfl (by decide +kernel); have r8 := hX.nmR (i := 8) (x := "ray") rfl (by first | exact Or.inl (by decide +kernel) | exact Or.inr (Or.inl (by decide +kernel))); have w8 := hX.nmW (i := 8) (x := "ray") rfl (by decide +kernel); have g_len := hX.glb (x := "len") (by decide +kernel) C.b_len; have d_law_holds := c_law_holds.at hX (by decide +kernel); have d_law_value := c_law_value.at hX (by decide +kernel); have d_law_lawful := c_law_lawful.at hX (by decide +kernel); have d_law_dot := c_law_dot.at hX (by decide +kernel)
      conv => (arg 3; whnf)
      have hr6 := h.pr.rl
      have hfl := h.pr.fl
      have hgl := h.gl
      have hc5 := h.pr.cl
      have ly : ((y.map frQ).map E.d).length = y.length := by rw [List.length_map, List.length_map]
      have lR : ((rows.map rwD).map E.d).length = rows.length := by rw [List.length_map, List.length_map]
      walk_at "go"
      refine jg_lst bx rfl rfl ?_
      iterate 11 walk_at "st"
      refine jss_cons (js_setLcP bx w7 (hX.loc (by decide +kernel)) (by rw [env_eq hX.eS]; rfl) (blk_ok hX (own := [("number", 9)]) (by decide +kernel)) (j := 9) (by decide) (fun Y hY => (hY.is hX).nmW rfl (by decide +kernel)) (ji_lst ?_) (by intro _; rfl))
      walk_at "go"
      refine ⟨rfl, by rw [List.length_map]; omega, fun _ => frQ 0, ?_, ?_⟩
      · rintro i v acc hi ⟨d, hd, rfl⟩ Y hY
        walk_at "go"
        exact ⟨rfl, rfl⟩
      rw [List.length_map, zeros_eq]
      have p1 := h.pr.mono (show 250 ≤ 1000 by decide)
      have hB : ∀ q ∈ rows, QB 250 q.b := fun q hq => (h.pr.rw q hq).b
      unfold noneV at k
      walk_at "go"
      · rename_i hb
        rw [ly, lR] at hb
        rw [decide_eq_false (by omega), Bool.false_and] at k
        exact k
      · rename_i hb
        rw [ly, lR] at hb
        have hyl : y.length = rows.length := by omega
        rw [decide_eq_true hyl, Bool.true_and] at k
        refine ap_lhol (c := c) ⟨p1, by rw [List.length_replicate]; exact hgl, fun x hx => by rw [List.eq_of_mem_replicate hx]; exact QB_0 (by decide), hyl, h.yq⟩ ?_
        walk_at "go"
        · rename_i h3
          rw [bq5 h3] at k
          exact k
        · rename_i h3
          rw [bq6 h3] at k
          refine ap_val hr6 hyl hB h.yq ?_
          walk_at "go"
          have e : decide ((valV rows y).num < 0) = decide (valV rows y < 0) := decide_eq_decide.mpr ⟨fun z => Rat.not_le.mp fun q => by have := Rat.num_nonneg.mpr q; omega, fun z => by have := mt Rat.num_nonneg.mp (Rat.not_le.mpr z); omega⟩
          rw [← e] at k
          exact k
    · have bx := hX.bx
      have r0 := hX.nmR (i := 0) (x := "word") rfl (by first | exact Or.inl (by decide +kernel) | exact Or.inr (Or.inl (by decide +kernel))); have w0 := hX.nmW (i := 0) (x := "word") rfl (by decide +kernel); have r1 := hX.nmR (i := 1) (x := "made") rfl (by first | exact Or.inl (by decide +kernel) | exact Or.inr (Or.inl (by decide +kernel))); have w1 := hX.nmW (i := 1) (x := "made") rfl (by decide +kernel); have r2 := hX.nmR (i := 2) (x := "goal") rfl (by first | exact Or.inl (by decide +kernel) | exact Or.inr (Or.inl (by decide +kernel))); have w2 := hX.nmW (i := 2) (x := "goal") rfl (by decide +kernel); have r3 := hX.nmR (i := 3) (x := "rows") rfl (by first | exact Or.inl (by decide +kernel) | exact Or.inr (Or.inl (by decide +kernel))); have w3 := hX.nmW (i := 3) (x := "rows") rfl (by decide +kernel); have r4 := hX.nmR (i := 4) (x := "free") rfl (by first | exact Or.inl (by decide +kernel) | exact Or.inr (Or.inl (by decide +kernel))); have w4 := hX.nmW (i := 4) (x := "free") rfl (by decide +kernel); have r5 := hX.nmR (i := 5) (x := "first") rfl (by first | exact Or.inl (by decide +kernel) | exact Or.inr (Or.inl (by decide +kernel))); have w5 := hX.nmW (i := 5) (x := "first") rfl (by decide +kernel); have r6 := hX.nmR (i := 6) (x := "second") rfl (by first | exact Or.inl (by decide +kernel) | exact Or.inr (Or.inl (by decide +kernel))); have w6 := hX.nmW (i := 6) (x := "second") rfl (by decide +kernel); have r7 := hX.nmR (i := 7) (x := "zeros") rfl (by first | exact Or.inl (by decide +kernel) | exact Or.inr (Or.inl (by decide +kernel))); have w7 := hX.nmW (i := 7) (x := "zeros") rfl (by decide +kernel); have r8 := hX.nmR (i := 8) (x := "ray") rfl (by first | exact Or.inl (by decide +kernel) | exact Or.inr (Or.inl (by decide +kernel))); have w8 := hX.nmW (i := 8) (x := "ray") rfl (by decide +kernel); have g_len := hX.glb (x := "len") (by decide +kernel) C.b_len; have d_law_holds := c_law_holds.at hX (by decide +kernel); have d_law_value := c_law_value.at hX (by decide +kernel); have d_law_lawful := c_law_lawful.at hX (by decide +kernel); have d_law_dot := c_law_dot.at hX (by decide +kernel)
      conv => (arg 3; whnf)
      have hr6 := h.pr.rl
      have hfl := h.pr.fl
      have hgl := h.gl
      have hc5 := h.pr.cl
      have lx : ((x.map frQ).map E.d).length = x.length := by rw [List.length_map, List.length_map]
      have lf : ((free.map D.bl).map E.d).length = free.length := by rw [List.length_map, List.length_map]
      have ly : ((y.map frQ).map E.d).length = y.length := by rw [List.length_map, List.length_map]
      have lR : ((rows.map rwD).map E.d).length = rows.length := by rw [List.length_map, List.length_map]
      walk_at "go"
      refine jg_lst bx rfl rfl ?_
      iterate 11 walk_at "st"
      refine jss_cons (js_setLcP bx w7 (hX.loc (by decide +kernel)) (by rw [env_eq hX.eS]; rfl) (blk_ok hX (own := [("number", 9)]) (by decide +kernel)) (j := 9) (by decide) (fun Y hY => (hY.is hX).nmW rfl (by decide +kernel)) (ji_lst ?_) (by intro _; rfl))
      walk_at "go"
      refine ⟨rfl, by rw [List.length_map]; omega, fun _ => frQ 0, ?_, ?_⟩
      · rintro i v acc hi ⟨d, hd, rfl⟩ Y hY
        walk_at "go"
        exact ⟨rfl, rfl⟩
      rw [List.length_map, zeros_eq]
      have p1 := h.pr.mono (show 250 ≤ 1000 by decide)
      have hB : ∀ q ∈ rows, QB 250 q.b := fun q hq => (h.pr.rw q hq).b
      have n1 : ¬ (Str.ofString "best" : Str) = Str.ofString "none" := by decide
      unfold bestV at k
      walk_at "go"
      all_goals try contradiction
      · rename_i hb
        rw [lx, lf] at hb
        rw [decide_eq_false (by omega), Bool.false_and] at k
        exact k
      · rename_i hb hb2
        rw [ly, lR] at hb2
        rw [decide_eq_false (show ¬ y.length = rows.length by omega), Bool.false_and, Bool.and_false] at k
        exact k
      · rename_i hb hb2
        rw [lx, lf] at hb
        rw [ly, lR] at hb2
        have hxl : x.length = free.length := by omega
        have hyl : y.length = rows.length := by omega
        rw [decide_eq_true hxl, decide_eq_true hyl, Bool.true_and, Bool.true_and] at k
        refine ap_llaw (c := c) p1 (by omega) h.xq ?_
        walk_at "go"
        · rename_i h3
          rw [bq5 h3] at k
          exact k
        · rename_i h3
          rw [bq6 h3] at k
          refine ap_lhol (c := c) ⟨p1, hgl, h.gq, hyl, h.yq⟩ ?_
          walk_at "go"
          all_goals try contradiction
          · rename_i h4
            rw [h4, Bool.true_and] at k
            refine ap_val hr6 hyl hB h.yq ?_
            walk_at "go"
            refine ap_dot (by omega) (by omega) h.gq (fun a ha => (h.xq a ha).mono (by decide)) ?_
            walk_at "go"
            exact k
          · rename_i h4
            rw [h4, Bool.false_and] at k
            exact k
    · have bx := hX.bx
      have r0 := hX.nmR (i := 0) (x := "word") rfl (by first | exact Or.inl (by decide +kernel) | exact Or.inr (Or.inl (by decide +kernel))); have w0 := hX.nmW (i := 0) (x := "word") rfl (by decide +kernel); have r1 := hX.nmR (i := 1) (x := "made") rfl (by first | exact Or.inl (by decide +kernel) | exact Or.inr (Or.inl (by decide +kernel))); have w1 := hX.nmW (i := 1) (x := "made") rfl (by decide +kernel); have r2 := hX.nmR (i := 2) (x := "goal") rfl (by first | exact Or.inl (by decide +kernel) | exact Or.inr (Or.inl (by decide +kernel))); have w2 := hX.nmW (i := 2) (x := "goal") rfl (by decide +kernel); have r3 := hX.nmR (i := 3) (x := "rows") rfl (by first | exact Or.inl (by decide +kernel) | exact Or.inr (Or.inl (by decide +kernel))); have w3 := hX.nmW (i := 3) (x := "rows") rfl (by decide +kernel); have r4 := hX.nmR (i := 4) (x := "free") rfl (by first | exact Or.inl (by decide +kernel) | exact Or.inr (Or.inl (by decide +kernel))); have w4 := hX.nmW (i := 4) (x := "free") rfl (by decide +kernel); have r5 := hX.nmR (i := 5) (x := "first") rfl (by first | exact Or.inl (by decide +kernel) | exact Or.inr (Or.inl (by decide +kernel))); have w5 := hX.nmW (i := 5) (x := "first") rfl (by decide +kernel); have r6 := hX.nmR (i := 6) (x := "second") rfl (by first | exact Or.inl (by decide +kernel) | exact Or.inr (Or.inl (by decide +kernel))); have w6 := hX.nmW (i := 6) (x := "second") rfl (by decide +kernel); have r7 := hX.nmR (i := 7) (x := "zeros") rfl (by first | exact Or.inl (by decide +kernel) | exact Or.inr (Or.inl (by decide +kernel))); have w7 := hX.nmW (i := 7) (x := "zeros") rfl (by decide +kernel); have r8 := hX.nmR (i := 8) (x := "ray") rfl (by first | exact Or.inl (by decide +kernel) | exact Or.inr (Or.inl (by decide +kernel))); have w8 := hX.nmW (i := 8) (x := "ray") rfl (by decide +kernel); have g_len := hX.glb (x := "len") (by decide +kernel) C.b_len; have d_law_holds := c_law_holds.at hX (by decide +kernel); have d_law_value := c_law_value.at hX (by decide +kernel); have d_law_lawful := c_law_lawful.at hX (by decide +kernel); have d_law_dot := c_law_dot.at hX (by decide +kernel)
      conv => (arg 3; whnf)
      have hr6 := h.pr.rl
      have hfl := h.pr.fl
      have hgl := h.gl
      have hc5 := h.pr.cl
      have lx : ((x.map frQ).map E.d).length = x.length := by rw [List.length_map, List.length_map]
      have lf : ((free.map D.bl).map E.d).length = free.length := by rw [List.length_map, List.length_map]
      have ly : ((y.map frQ).map E.d).length = y.length := by rw [List.length_map, List.length_map]
      have lR : ((rows.map rwD).map E.d).length = rows.length := by rw [List.length_map, List.length_map]
      walk_at "go"
      refine jg_lst bx rfl rfl ?_
      iterate 11 walk_at "st"
      refine jss_cons (js_setLcP bx w7 (hX.loc (by decide +kernel)) (by rw [env_eq hX.eS]; rfl) (blk_ok hX (own := [("number", 9)]) (by decide +kernel)) (j := 9) (by decide) (fun Y hY => (hY.is hX).nmW rfl (by decide +kernel)) (ji_lst ?_) (by intro _; rfl))
      walk_at "go"
      refine ⟨rfl, by rw [List.length_map]; omega, fun _ => frQ 0, ?_, ?_⟩
      · rintro i v acc hi ⟨d, hd, rfl⟩ Y hY
        walk_at "go"
        exact ⟨rfl, rfl⟩
      rw [List.length_map, zeros_eq]
      have n1 : ¬ (Str.ofString "endless" : Str) = Str.ofString "none" := by decide
      have n2 : ¬ (Str.ofString "endless" : Str) = Str.ofString "best" := by decide
      unfold endV at k
      walk_at "go"
      all_goals try contradiction
      · rename_i hb
        rw [lx, lf] at hb
        rw [decide_eq_false (by omega), Bool.false_and] at k
        exact k
      · rename_i hb hb2 hb3
        rw [ly, lf] at hb3
        rw [decide_eq_false (show ¬ y.length = free.length by omega), Bool.false_and, Bool.and_false] at k
        exact k
      · rename_i hb hb2 hb3
        rw [lx, lf] at hb
        rw [ly, lf] at hb3
        have hxl : x.length = free.length := by omega
        have hyl : y.length = free.length := by omega
        rw [decide_eq_true hxl, decide_eq_true hyl, Bool.true_and, Bool.true_and] at k
        refine ap_llaw (c := c) h.pr (by omega) h.xq ?_
        walk_at "go"
        all_goals try contradiction
        · rename_i h3
          rw [bq5 h3] at k
          exact k
        · rename_i h3 h4
          rw [bq6 h3] at k
          refine jss_cons (js_setLcP bx w8 (hX.loc (by decide +kernel)) (by rw [env_eq hX.eS]; rfl) (blk_ok hX (own := [("row", 10)]) (by decide +kernel)) (j := 10) (by decide) (fun Y hY => (hY.is hX).nmW rfl (by decide +kernel)) (ji_lst ?_) (by intro _; rfl))
          walk_at "go"
          refine ⟨rfl, by rw [List.length_map]; omega, fun i => rwD ((rayR rows).getD i ⟨[], sJ, 0⟩), ?_, ?_⟩
          · rintro i v acc hi ⟨d, hd, rfl⟩ Y hY
            rw [List.getElem?_map] at hd
            cases ex : rows[i]? with
            | none => rw [ex] at hd; cases hd
            | some q =>
              rw [ex] at hd
              cases hd
              have hg : (rayR rows).getD i ⟨[], sJ, 0⟩ = ⟨q.r, q.s, 0⟩ := getD_at (by unfold rayR; rw [List.getElem?_map, ex]; rfl)
              have hYX := hY.is hX; have bY := hYX.bx; have r10Y := hYX.nmR (i := 10) (x := "row") rfl (by first | exact Or.inl (by decide +kernel) | exact Or.inr (Or.inl (by decide +kernel)) | exact Or.inr (Or.inr (by decide +kernel)))
              walk_at "go"
              exact ⟨by show _ = E.d (rwD ((rayR rows).getD i ⟨[], sJ, 0⟩)); rw [hg]; rfl, rfl⟩
          have rl : (rayR rows).length = rows.length := by unfold rayR; rw [List.length_map]
          rw [List.length_map, ← rl, range_getD rwD ⟨[], sJ, 0⟩ (rayR rows)]
          have pR : PrOk 1000 c (rayR rows) free := ⟨by omega, hc5, hfl, fun w hw => by
            obtain ⟨q, hq, rfl⟩ := List.mem_map.mp hw
            have z := h.pr.rw q hq
            exact ⟨z.l, z.rq, QB_0 (by decide), z.s⟩⟩
          walk_at "go"
          refine ap_llaw (c := c) pR (by omega) h.yq ?_
          walk_at "go"
          · rename_i h5
            rw [h5, Bool.true_and] at k
            refine ap_dot (by omega) (by omega) h.gq (fun a ha => (h.yq a ha).mono (by decide)) ?_
            walk_at "go"
            have e : decide (0 < (dots goal y).sum.num) = decide (0 < (dots goal y).sum) := decide_eq_decide.mpr rnum_pos.symm
            rw [← e] at k
            exact k
          · rename_i h5
            rw [h5, Bool.false_and] at k
            exact k
end
/-! .. the first row owned, the answer owned -/
def R_minusC : RC1 := fun kd cds ds post => kd = .lst ∧ ∃ (xs ys : List Rat) (f : Rat) (k l m : Nat), cds = xs.map frQ ∧ ds = [frs ys, frQ f] ∧ xs.length = ys.length ∧ xs.length ≤ 6 ∧ (∀ x ∈ xs, QB k x) ∧ (∀ y ∈ ys, QB l y) ∧ QB m f ∧ 0 < k ∧ 0 < l ∧ 0 < m ∧ k + (l + m) + 2 ≤ 4000 ∧ post (.new .lst ((minV xs ys f).map frQ)) .lst (xs.map frQ)
theorem ap_minusC {xs ys : List Rat} {f : Rat} (k l m : Nat) {post : Rt → Kd → List D → Prop} (h0 : xs.length = ys.length) (h1 : xs.length ≤ 6) (h2 : ∀ x ∈ xs, QB k x) (h3 : ∀ y ∈ ys, QB l y) (h4 : QB m f) (h5 : 0 < k) (h6 : 0 < l) (h7 : 0 < m) (h8 : k + (l + m) + 2 ≤ 4000) (h : post (.new .lst ((minV xs ys f).map frQ)) .lst (xs.map frQ)) : R_minusC .lst (xs.map frQ) [frs ys, frQ f] post := ⟨rfl, xs, ys, f, k, l, m, rfl, rfl, h0, h1, h2, h3, h4, h5, h6, h7, h8, h⟩
theorem mo_minusC : MonoC R_minusC := fun kd cds ds p q m ⟨z, a, b, c, d, e, f, g, y, h1, h2, h3, h4, h5, h6, h7, h8, h9, h⟩ => ⟨z, a, b, c, d, e, f, g, y, h1, h2, h3, h4, h5, h6, h7, h8, h9, m _ _ _ h⟩
section
variable {P : Program} {w : World} {K : PySem.W.Frag} {mg : Str → Option Value} {base : Heap}
theorem ok_law_minusC {f : Addr} {fd : FuncData} (C : Bs2 mg) (c_law_sub : CaP P w K mg base "_law_sub" 3 R_less) (c_law_mul : CaP P w K mg base "_law_mul" 3 R_mul) (Fu : Fun K "_law_minus" "_law_minus" s_law_minus f fd) : FnOk P w K mg base CX0 4 f fd ["row", "other", "factor"] (spC K R_minusC) := by
  refine fn_C Fu sc_law_minus (fun kd cds ds post h => ?_) fun X F kd cds ds post hX hfn hH h => ?_
  · obtain ⟨_, _, _, _, _, _, _, _, rfl, _⟩ := h
    rfl
  · obtain ⟨rfl, xs, ys, q, kk, l, m, rfl, rfl, h0, h1, h2, h3, h4, h5, h6, h7, h8, k⟩ := h
    have bx := hX.bx
    have r0 := hX.nmR (i := 0) (x := "row") rfl (by first | exact Or.inl (by decide +kernel) | exact Or.inr (Or.inl (by decide +kernel))); have w0 := hX.nmC (i := 0) (x := "row") rfl (by decide +kernel) (hfn _); have r1 := hX.nmR (i := 1) (x := "other") rfl (by first | exact Or.inl (by decide +kernel) | exact Or.inr (Or.inl (by decide +kernel))); have w1 := hX.nmC (i := 1) (x := "other") rfl (by decide +kernel) (hfn _); have r2 := hX.nmR (i := 2) (x := "factor") rfl (by first | exact Or.inl (by decide +kernel) | exact Or.inr (Or.inl (by decide +kernel))); have w2 := hX.nmC (i := 2) (x := "factor") rfl (by decide +kernel) (hfn _); have g_range := hX.glb (x := "range") (by decide +kernel) C.b_range; have g_len := hX.glb (x := "len") (by decide +kernel) C.b_len
    conv => (arg 3; whnf)
    have ln : ((xs.map frQ).map E.d).length = xs.length := by rw [List.length_map, List.length_map]
    have ml := minV_len (f := q) h0
    refine jss_ret (je_lcI bx (blk_ok hX (own := [("k", 3)]) (by decide +kernel)) (j := 3) (by decide) (fun Y hY => (hY.is hX).nmW rfl (by decide +kernel)) (ji_range1 g_range ?_) (by intro _; rfl))
    walk_at "go"
    refine ⟨by rw [ln]; omega, by rw [ln]; omega, fun j ds t => ds = ((minV xs ys q).take j).map frQ ∧ t = ⟨[some (.r 0), some (.d (frs ys)), some (.d (frQ q)), none], [.nd .lst ((xs.map frQ).map .d)], 1⟩, ⟨by rw [List.take_zero]; rfl, rfl⟩, ?_, ?_⟩
    · rintro i e ds t hi he hdl ⟨rfl, rfl⟩
      refine ⟨rfl, rfl, fun Y hY => ?_⟩
      obtain rfl : e = _ := he
      have hi2 : i < xs.length := by rw [ln] at hi; omega
      have ex : xs[i]? = some xs[i] := List.getElem?_eq_getElem hi2
      have ey : ys[i]? = some (ys[i]'(by omega)) := List.getElem?_eq_getElem (by omega)
      generalize xs[i] = x at ex
      generalize ys[i]'(by omega) = y at ey
      have l1 : L2.atI ((xs.map frQ).map E.d) (i : Int) = some (.d (frQ x)) := L2.atI_nat (by rw [List.getElem?_map, List.getElem?_map, ex]; rfl)
      have l2 : L2.atI ((ys.map frQ).map E.d) (i : Int) = some (.d (frQ y)) := L2.atI_nat (by rw [List.getElem?_map, List.getElem?_map, ey]; rfl)
      have hg := minV_get (f := q) ex ey
      have qX := h2 _ (List.mem_of_getElem? ex)
      have qY := h3 _ (List.mem_of_getElem? ey)
      have zi : (0 : Int) + i = i := Int.zero_add _
      rw [zi]
      have hYX := hY.is hX; have bY := hYX.bx; have e_law_sub := c_law_sub.at hYX (by decide +kernel); have r0Y := hYX.nmR (i := 0) (x := "row") rfl (by first | exact Or.inl (by decide +kernel) | exact Or.inr (Or.inl (by decide +kernel)) | exact Or.inr (Or.inr (by decide +kernel))); have r3Y := hYX.nmR (i := 3) (x := "k") rfl (by first | exact Or.inl (by decide +kernel) | exact Or.inr (Or.inl (by decide +kernel)) | exact Or.inr (Or.inr (by decide +kernel))); have e_law_mul := c_law_mul.at hYX (by decide +kernel); have r2Y := hYX.nmR (i := 2) (x := "factor") rfl (by first | exact Or.inl (by decide +kernel) | exact Or.inr (Or.inl (by decide +kernel)) | exact Or.inr (Or.inr (by decide +kernel))); have r1Y := hYX.nmR (i := 1) (x := "other") rfl (by first | exact Or.inl (by decide +kernel) | exact Or.inr (Or.inl (by decide +kernel)) | exact Or.inr (Or.inr (by decide +kernel)))
      walk_at "go"
      refine jx_seq rfl (.inl rfl) l1 ?_
      walk_at "go"
      refine jx_seq rfl (.inl rfl) l2 ?_
      walk_at "go"
      refine ap_op m l h4 qY h7 h6 (by omega) trivial ?_
      walk_at "go"
      refine ap_op kk (m + l) qX (h4.mul qY) h5 (by omega) (by omega) trivial ?_
      walk_at "go"
      refine ⟨_, ⟨[some (.r 0), some (.d (frs ys)), some (.d (frQ q)), none], [.nd .lst ((xs.map frQ).map .d)], 1⟩, rfl, rfl, rfl, rfl, ?_, rfl⟩
      rw [← take_snoc hg, List.map_append]; rfl
    · rintro ds t hdl ⟨rfl, rfl⟩
      refine ⟨rfl, ?_⟩
      have e : (minV xs ys q).take (((xs.map frQ).map E.d).length : Int).toNat = minV xs ys q := by rw [ln, show ((xs.length : Nat) : Int).toNat = (minV xs ys q).length by rw [ml]; omega, List.take_length]
      rw [e]
      exact ⟨.lst, _, _, rfl, dsOf_map _, .lst, _, (minV xs ys q).map frQ, rfl, dsOf_map _, Nat.le_refl 1, k⟩
end
def R_combO : RP := fun ds post => ∃ (R : List (List Rat)) (fs : List Rat) (c : Nat), ds = [matD R, frs fs, .int c] ∧ MatOk c R ∧ fs.length = R.length ∧ (∀ f ∈ fs, QB 45 f) ∧ post (.new .lst ((comb R fs c R.length).map frQ))
theorem ap_combO {R : List (List Rat)} {fs : List Rat} {c : Nat} {post : Rt → Prop} (h : MatOk c R) (hl : fs.length = R.length) (hf : ∀ f ∈ fs, QB 45 f) (q : post (.new .lst ((comb R fs c R.length).map frQ))) : R_combO [matD R, frs fs, .int c] post := ⟨R, fs, c, rfl, h, hl, hf, q⟩
theorem mo_combO : MonoP R_combO := fun ds p q m ⟨a, b, c, d, e, f, g, h⟩ => ⟨a, b, c, d, e, f, g, m _ h⟩
section
variable {P : Program} {w : World} {K : PySem.W.Frag} {mg : Str → Option Value} {base : Heap}
theorem ok_law_combinedO {f : Addr} {fd : FuncData} (C : Bs2 mg) (c2_law_minus : CaC P w K mg base "_law_minus" 4 R_minusC) (c_law_sub : CaP P w K mg base "_law_sub" 3 R_less) (Fu : Fun K "_law_combined" "_law_combined" s_law_combined f fd) : FnOk P w K mg base CX0 5 f fd ["rows", "factors", "count"] (spP K R_combO) := by
  have c_law_minus := c2_law_minus
  refine fn_P Fu sc_law_combined (fun ds post h => ?_) fun X F ds post hX hfn hH h => ?_
  · obtain ⟨_, _, _, rfl, _⟩ := h
    rfl
  · obtain ⟨R, fs, c, rfl, h, hl, hf, k⟩ := h
    have bx := hX.bx
    have r0 := hX.nmR (i := 0) (x := "rows") rfl (by first | exact Or.inl (by decide +kernel) | exact Or.inr (Or.inl (by decide +kernel))); have w0 := hX.nmW (i := 0) (x := "rows") rfl (by decide +kernel); have r1 := hX.nmR (i := 1) (x := "factors") rfl (by first | exact Or.inl (by decide +kernel) | exact Or.inr (Or.inl (by decide +kernel))); have w1 := hX.nmW (i := 1) (x := "factors") rfl (by decide +kernel); have r2 := hX.nmR (i := 2) (x := "count") rfl (by first | exact Or.inl (by decide +kernel) | exact Or.inr (Or.inl (by decide +kernel))); have w2 := hX.nmW (i := 2) (x := "count") rfl (by decide +kernel); have r3 := hX.nmR (i := 3) (x := "found") rfl (by first | exact Or.inl (by decide +kernel) | exact Or.inr (Or.inl (by decide +kernel))); have w3 := hX.nmW (i := 3) (x := "found") rfl (by decide +kernel); have r4 := hX.nmR (i := 4) (x := "at") rfl (by first | exact Or.inl (by decide +kernel) | exact Or.inr (Or.inl (by decide +kernel))); have w4 := hX.nmW (i := 4) (x := "at") rfl (by decide +kernel); have g_range := hX.glb (x := "range") (by decide +kernel) C.b_range; have g_len := hX.glb (x := "len") (by decide +kernel) C.b_len; have d_law_minus := c_law_minus.at hX (by decide +kernel); have d_law_sub := c_law_sub.at hX (by decide +kernel)
    conv => (arg 3; whnf)
    have hR5 := h.len
    have hc5 := h.cl
    refine jss_cons (js_setLcI bx w3 (hX.loc (by decide +kernel)) (by rw [env_eq hX.eS]; rfl) (blk_ok hX (own := [("k", 5)]) (by decide +kernel)) (j := 5) (by decide) (fun Y hY => (hY.is hX).nmW rfl (by decide +kernel)) (ji_range1 g_range ?_) (by intro _; rfl))
    walk_at "go"
    refine ⟨by omega, by omega, fun j ds t => ds = (List.replicate j 0).map frQ ∧ t = ⟨[some (.d (matD R)), some (.d (frs fs)), some (.d (.int c)), none, none, none], [], 0⟩, ⟨rfl, rfl⟩, ?_, ?_⟩
    · rintro i e ds t hi he hdl ⟨rfl, rfl⟩
      refine ⟨rfl, rfl, fun Y hY => ?_⟩
      walk_at "go"
      refine ⟨_, ⟨[some (.d (matD R)), some (.d (frs fs)), some (.d (.int c)), none, none, none], [], 0⟩, rfl, rfl, rfl, rfl, ?_, rfl⟩
      rw [List.replicate_succ', List.map_append]; rfl
    rintro ds t hdl ⟨rfl, rfl⟩
    refine ⟨rfl, ?_⟩
    rw [show ((c : Nat) : Int).toNat = c from rfl, ← comb_0 R fs c]
    have ln : ((R.map frs).map E.d).length = R.length := by rw [List.length_map, List.length_map]
    refine jss_for bx (fun i s => ∃ o4 : Option D, s = ⟨[some (.d (matD R)), some (.d (frs fs)), some (.d (.int c)), some (.r 0), o4.map .d, none], [.nd .lst (((comb R fs c i).map frQ).map .d)], 0⟩) (ji_range1 g_range ?_) (by intro _; rfl)
    walk_at "go"
    refine ⟨by rw [ln]; omega, ⟨none, rfl⟩, ?_, ?_⟩
    · rintro i v s' hi he ⟨o4, rfl⟩
      obtain rfl : v = _ := he
      have hi2 : i < R.length := by rw [ln] at hi; omega
      have e1 : R[i]? = some R[i] := List.getElem?_eq_getElem hi2
      have e2 : fs[i]? = some (fs[i]'(by omega)) := List.getElem?_eq_getElem (by omega)
      generalize R[i] = r at e1
      generalize fs[i]'(by omega) = g at e2
      obtain ⟨h3, h4⟩ := h.ok _ (List.mem_of_getElem? e1)
      obtain ⟨h1, h2⟩ := h.comb hl hf i (by omega)
      have hg := hf _ (List.mem_of_getElem? e2)
      have l1 : L2.atI ((R.map frs).map E.d) (i : Int) = some (.d (frs r)) := L2.atI_nat (by rw [List.getElem?_map, List.getElem?_map, e1]; rfl)
      have l2 : L2.atI ((fs.map frQ).map E.d) (i : Int) = some (.d (frQ g)) := L2.atI_nat (by rw [List.getElem?_map, List.getElem?_map, e2]; rfl)
      have zi : (0 : Int) + i = i := Int.zero_add _
      rw [zi, comb_s e1 e2]
      generalize comb R fs c i = fo at h1 h2
      walk_at "go"
      refine jx_seq rfl (.inl rfl) l1 ?_
      walk_at "go"
      refine jx_seq rfl (.inl rfl) l2 ?_
      walk_at "go"
      show R_less [frQ 0, frQ g] _
      refine ap_op 1 45 (QB_0 (by decide)) hg (by decide) (by decide) (by decide) trivial ?_
      walk_at "go"
      refine ap_minusC (1 + 298 * i) 250 47 (by rw [h1, h3]) (by omega) h2 h4 ((QB_0 (by decide)).sub hg) (by omega) (by decide) (by decide) (by omega) ?_
      rw [minV_stp]
      refine rtΦ_new ?_
      refine jss_mv (n := 0) (cs := []) (kd := .lst) (ds := (stp fo r g).map frQ) (s' := ⟨[some (.d (matD R)), some (.d (frs fs)), some (.d (.int c)), some (.r 0), some (.d (.int i)), none], [.nd .lst (((stp fo r g).map frQ).map .d)], 0⟩) ⟨⟨_, rfl⟩, rfl, rfl, rfl, rfl, Nat.le_refl 0, rfl, ?_⟩ ?_
      · intro j e he
        match j, he with
        | 0, he => cases he; exact .inl ⟨rfl, rfl⟩
        | 1, he => cases he; exact .inl ⟨rfl, rfl⟩
        | 2, he => cases he; exact .inl ⟨rfl, rfl⟩
        | 3, he => cases he; exact .inr ⟨rfl, rfl⟩
        | 4, he => cases he; exact .inl ⟨rfl, rfl⟩
        | 5, he => cases he
        | j + 6, he => cases he
      · walk_at "go"
        exact ⟨some (.int i), rfl⟩
    · rintro s' ⟨o4, rfl⟩
      rw [show ((((R.map frs).map E.d).length : Nat) : Int).toNat = R.length by rw [ln]; omega]
      walk_at "go"
      exact ⟨.lst, _, (comb R fs c R.length).map frQ, rfl, dsOf_map _, Nat.zero_le _, k⟩
end
def R_mbest : RC1 := fun kd cds ds post => kd = .lst ∧ PoolD cds ∧ ∃ (c m : Nat), ds = [.int c, .int m] ∧ 0 < c ∧ c ≤ 4 ∧ 0 < m ∧ m ≤ 5 ∧ ∀ (goal : List Rat) (rows : List Rw) (free : List Bool) (x y : List Rat) cds', rows.length = m → x.length = c → y.length = m → goal.length = c → free.length = c → (∀ q ∈ rows, RwOk c 240 q) → (∀ q ∈ rows, ∀ a ∈ q.r, QB 240 a) → (∀ a ∈ x, QB 39 a) → (∀ a ∈ y, QB 39 a) → (∀ a ∈ goal, QB 240 a) → bestV goal rows free x y = true → PoolD cds' → post (.dat (mdD goal rows free (frs x) y)) .lst cds'
theorem tidy_5 (cds es fs : List D) (sl : List (Option E)) (h : sl.all (E.ltB 5) = true) : TidyB ⟨sl, [.nd .lst (cds.map .d), .gone, .gone, .nd .lst (es.map .d), .nd .lst (fs.map .d)], 1⟩ = true := by
  unfold TidyB
  simp only [Bool.and_eq_true, decide_eq_true_eq]
  refine ⟨⟨h, ?_⟩, by show 1 ≤ 5; decide⟩
  show ((cds.map E.d).all (E.lt 5) && (true && (true && ((es.map E.d).all (E.lt 5) && ((fs.map E.d).all (E.lt 5) && true))))) = true
  rw [lt_ds, lt_ds, lt_ds]; rfl
theorem ap_mbest {cds : List D} {c m : Nat} {post : Rt → Kd → List D → Prop} (hp : PoolD cds) (h1 : 0 < c) (h2 : c ≤ 4) (h3 : 0 < m) (h4 : m ≤ 5) (h : ∀ (goal : List Rat) (rows : List Rw) (free : List Bool) (x y : List Rat) cds', rows.length = m → x.length = c → y.length = m → goal.length = c → free.length = c → (∀ q ∈ rows, RwOk c 240 q) → (∀ q ∈ rows, ∀ a ∈ q.r, QB 240 a) → (∀ a ∈ x, QB 39 a) → (∀ a ∈ y, QB 39 a) → (∀ a ∈ goal, QB 240 a) → bestV goal rows free x y = true → PoolD cds' → post (.dat (mdD goal rows free (frs x) y)) .lst cds') : R_mbest .lst cds [.int c, .int m] post := ⟨rfl, hp, c, m, rfl, h1, h2, h3, h4, h⟩
theorem mo_mbest : MonoC R_mbest := fun kd cds ds p q m ⟨a, b, c, d, e, f, g, i, j, h⟩ => ⟨a, b, c, d, e, f, g, i, j, fun u1 u2 u3 u4 u5 u6 h1 h2 h3 h4 h5 h6 h7 h8 h9 h10 h11 h12 => m _ _ _ (h u1 u2 u3 u4 u5 u6 h1 h2 h3 h4 h5 h6 h7 h8 h9 h10 h11 h12)⟩
theorem comb_QBk {R : List (List Rat)} {fs : List Rat} {c k l : Nat} (hl : fs.length = R.length) (hR : ∀ r ∈ R, ∀ a ∈ r, QB k a) (hf : ∀ a ∈ fs, QB l a) : ∀ i, i ≤ R.length → ∀ z ∈ comb R fs c i, QB (1 + (k + l + 1) * i) z
  | 0, _ => fun z hz => by
    rw [comb_0] at hz
    rw [List.eq_of_mem_replicate hz]; exact QB_0 (by omega)
  | i + 1, hi => fun z hz => by
    have e1 : R[i]? = some R[i] := List.getElem?_eq_getElem (by omega)
    have e2 : fs[i]? = some (fs[i]'(by omega)) := List.getElem?_eq_getElem (by omega)
    rw [comb_s e1 e2] at hz
    exact (stp_QB (comb_QBk hl hR hf i (by omega)) (hR _ (List.mem_of_getElem? e1)) (hf _ (List.mem_of_getElem? e2)) z hz).mono (by rw [Nat.mul_add]; omega)
theorem ixN_natQ {n j : Nat} (hj : j < n) : ixN n (j : Int) = some j := by
  unfold ixN
  rw [if_pos (by omega), if_pos (by omega)]
  simp
section
variable {P : Program} {w : World} {K : PySem.W.Frag} {mg : Str → Option Value} {base : Heap}
theorem ok_law_made_best {f : Addr} {fd : FuncData} (C : Bs2 mg) (c_law_row : CaC P w K mg base "_law_row" 5 R_row) (c_law_draw : CaC P w K mg base "_law_draw" 3 R_draw) (c_law_pick : CaC P w K mg base "_law_pick" 4 R_pick) (c_law_fraction : CaC P w K mg base "_law_fraction" 4 R_fraction) (c_law_positive : CaC P w K mg base "_law_positive" 4 R_pos) (c2_law_combined : CaP P w K mg base "_law_combined" 5 R_combO) (c_law_sub : CaP P w K mg base "_law_sub" 3 R_less) (c_law_add : CaP P w K mg base "_law_add" 3 R_add) (c_law_dot : CaP P w K mg base "_law_dot" 4 R_dot) (Fu : Fun K "_law_made_best" "_law_made_best" s_law_made_best f fd) : FnOk P w K mg base CX0 6 f fd ["pool", "count", "many"] (spC K R_mbest) := by
  have c_law_combined := c2_law_combined
  refine fn_C Fu sc_law_made_best (fun kd cds ds post h => ?_) fun X F kd cds ds post hX hfn hH h => ?_
  · obtain ⟨_, _, _, _, rfl, _⟩ := h
    rfl
  · obtain ⟨rfl, hp, c, m, rfl, hc0, hc4, hm0, hm5, k⟩ := h
    have bx := hX.bx
    have r0 := hX.nmR (i := 0) (x := "pool") rfl (by first | exact Or.inl (by decide +kernel) | exact Or.inr (Or.inl (by decide +kernel))); have w0 := hX.nmC (i := 0) (x := "pool") rfl (by decide +kernel) (hfn _); have r1 := hX.nmR (i := 1) (x := "count") rfl (by first | exact Or.inl (by decide +kernel) | exact Or.inr (Or.inl (by decide +kernel))); have w1 := hX.nmW (i := 1) (x := "count") rfl (by decide +kernel); have r2 := hX.nmR (i := 2) (x := "many") rfl (by first | exact Or.inl (by decide +kernel) | exact Or.inr (Or.inl (by decide +kernel))); have w2 := hX.nmW (i := 2) (x := "many") rfl (by decide +kernel); have r3 := hX.nmR (i := 3) (x := "free") rfl (by first | exact Or.inl (by decide +kernel) | exact Or.inr (Or.inl (by decide +kernel))); have w3 := hX.nmC (i := 3) (x := "free") rfl (by decide +kernel) (hfn _); have r4 := hX.nmR (i := 4) (x := "x") rfl (by first | exact Or.inl (by decide +kernel) | exact Or.inr (Or.inl (by decide +kernel))); have w4 := hX.nmW (i := 4) (x := "x") rfl (by decide +kernel); have r5 := hX.nmR (i := 5) (x := "rows") rfl (by first | exact Or.inl (by decide +kernel) | exact Or.inr (Or.inl (by decide +kernel))); have w5 := hX.nmW (i := 5) (x := "rows") rfl (by decide +kernel); have r6 := hX.nmR (i := 6) (x := "y") rfl (by first | exact Or.inl (by decide +kernel) | exact Or.inr (Or.inl (by decide +kernel))); have w6 := hX.nmW (i := 6) (x := "y") rfl (by decide +kernel); have r7 := hX.nmR (i := 7) (x := "k") rfl (by first | exact Or.inl (by decide +kernel) | exact Or.inr (Or.inl (by decide +kernel))); have w7 := hX.nmW (i := 7) (x := "k") rfl (by decide +kernel); have r8 := hX.nmR (i := 8) (x := "row") rfl (by first | exact Or.inl (by decide +kernel) | exact Or.inr (Or.inl (by decide +kernel))); have w8 := hX.nmW (i := 8) (x := "row") rfl (by decide +kernel); have r9 := hX.nmR (i := 9) (x := "sense") rfl (by first | exact Or.inl (by decide +kernel) | exact Or.inr (Or.inl (by decide +kernel))); have w9 := hX.nmW (i := 9) (x := "sense") rfl (by decide +kernel); have r10 := hX.nmR (i := 10) (x := "met") rfl (by first | exact Or.inl (by decide +kernel) | exact Or.inr (Or.inl (by decide +kernel))); have w10 := hX.nmW (i := 10) (x := "met") rfl (by decide +kernel); have r11 := hX.nmR (i := 11) (x := "goal") rfl (by first | exact Or.inl (by decide +kernel) | exact Or.inr (Or.inl (by decide +kernel))); have w11 := hX.nmW (i := 11) (x := "goal") rfl (by decide +kernel); have g_range := hX.glb (x := "range") (by decide +kernel) C.b_range; have d_law_row := c_law_row.at hX (by decide +kernel); have d_law_pick := c_law_pick.at hX (by decide +kernel); have d_law_draw := c_law_draw.at hX (by decide +kernel); have d_law_add := c_law_add.at hX (by decide +kernel); have d_law_dot := c_law_dot.at hX (by decide +kernel); have d_law_positive := c_law_positive.at hX (by decide +kernel); have d_law_fraction := c_law_fraction.at hX (by decide +kernel); have d_law_combined := c_law_combined.at hX (by decide +kernel); have d_law_sub := c_law_sub.at hX (by decide +kernel)
    conv => (arg 3; whnf)
    refine jss_set w3 (je_lcI bx (blk_ok hX (own := [("k", 7)]) (by decide +kernel)) (j := 7) (by decide) (fun Y hY => (hY.is hX).nmW rfl (by decide +kernel)) (ji_range1 g_range ?_) (by intro _; rfl)) (by rw [env_eq hX.eS]; rfl)
    walk_at "go"
    refine ⟨by omega, by omega, fun j ds t => ∃ (cds : List D) (bs : List Bool), PoolD cds ∧ ds = bs.map D.bl ∧ t = ⟨[some (.r 0), some (.d (.int c)), some (.d (.int m)), none, none, none, none, none, none, none, none, none], [.nd .lst (cds.map .d)], 1⟩, ⟨cds, [], hp, rfl, rfl⟩, ?_, ?_⟩
    · rintro j e ds t hj he hdl ⟨cds, bs, hp, rfl, rfl⟩
      refine ⟨rfl, rfl, fun Y hY => ?_⟩
      have hYX := hY.is hX; have bY := hYX.bx; have e_law_draw := c_law_draw.at hYX (by decide +kernel); have r0Y := hYX.nmR (i := 0) (x := "pool") rfl (by first | exact Or.inl (by decide +kernel) | exact Or.inr (Or.inl (by decide +kernel)) | exact Or.inr (Or.inr (by decide +kernel)))
      walk_at "go"
      refine ap_draw hp (lim_of (by decide) (by decide)) fun v cds9 v0 v1 hp9 => ?_
      refine rtΦ_dat ?_
      walk_at "go"
      refine ⟨_, ⟨[some (.r 0), some (.d (.int c)), some (.d (.int m)), none, none, none, none, none, none, none, none, none], [.nd .lst (cds9.map .d)], 1⟩, rfl, rfl, rfl, rfl, cds9, bs ++ [decide (v = 0)], hp9, by simp, rfl⟩
    · rintro ds t hdl ⟨cds1, free, hp1, rfl, rfl⟩
      have fl : free.length = c := by rw [List.length_map] at hdl; omega
      refine ⟨rfl, ?_⟩
      refine jss_frz' (k := 1) (kd := .lst) (ds := free.map D.bl) rfl (dsOf_map _) (fun C fs z => by cases z) (Nat.le_refl 1) (s' := ⟨[some (.r 0), some (.d (.int c)), some (.d (.int m)), some (.d (bls free)), none, none, none, none, none, none, none, none], [.nd .lst (cds1.map .d), .gone], 1⟩) ?_ ?_
      · simp only [S.fz, S.set, S.put, S.push, setN, List.map_cons, List.map_nil, List.cons_append, List.nil_append, List.length_cons, List.length_nil, Option.map_some, Option.map_none, Cell.fz, E.fz, fz_map]
        rfl
      refine jss_cons (js_setLcI bx w4 (hX.loc (by decide +kernel)) (by rw [env_eq hX.eS]; rfl) (blk_ok hX (own := [("k", 7)]) (by decide +kernel)) (j := 7) (by decide) (fun Y hY => (hY.is hX).nmW rfl (by decide +kernel)) (ji_range1 g_range ?_) (by intro _; rfl))
      walk_at "go"
      refine ⟨by omega, by omega, fun j ds t => ∃ (cds : List D) (xs : List Rat), PoolD cds ∧ ds = xs.map frQ ∧ (∀ x ∈ xs, QB 21 x) ∧ (∀ (i : Nat) f a, free[i]? = some f → xs[i]? = some a → f = true ∨ 0 ≤ a) ∧ t = ⟨[some (.r 0), some (.d (.int c)), some (.d (.int m)), some (.d (bls free)), none, none, none, none, none, none, none, none], [.nd .lst (cds.map .d), .gone], 1⟩, ⟨cds1, [], hp1, rfl, fun x hx => (by cases hx), fun i f a _ h => by simp at h, rfl⟩, ?_, ?_⟩
      · rintro j e ds t hj he hdl ⟨cds, xs, hp, rfl, hxq, hxf, rfl⟩
        refine ⟨rfl, rfl, fun Y hY => ?_⟩
        obtain rfl : e = _ := he
        have hxl : xs.length = j := by rw [List.length_map] at hdl; exact hdl
        have hj2 : j < free.length := by omega
        have e1 : free[j]? = some free[j] := List.getElem?_eq_getElem hj2
        generalize free[j] = g at e1
        have l1 : L2.atI ((free.map D.bl).map E.d) (j : Int) = some (.d (.bl g)) := L2.atI_nat (by rw [List.getElem?_map, List.getElem?_map, e1]; rfl)
        have zi : (0 : Int) + j = j := Int.zero_add _
        rw [zi]
        have nx : ∀ a : Rat, (g = true ∨ 0 ≤ a) → ∀ (i : Nat) f b, free[i]? = some f → (xs ++ [a])[i]? = some b → f = true ∨ 0 ≤ b := fun a ha i f b h1 h2 => by
          rcases app_get h2 with h2 | ⟨z, rfl⟩
          · exact hxf i f b h1 h2
          · rw [z, hxl, e1] at h1
            cases h1
            exact ha
        have qn : ∀ a : Rat, QB 21 a → ∀ b ∈ xs ++ [a], QB 21 b := fun a ha b hb => by
          rcases List.mem_append.mp hb with hb | hb
          · exact hxq b hb
          · have : b = a := by simpa using hb
            rw [this]; exact ha
        have hYX := hY.is hX; have bY := hYX.bx; have r3Y := hYX.nmR (i := 3) (x := "free") rfl (by first | exact Or.inl (by decide +kernel) | exact Or.inr (Or.inl (by decide +kernel)) | exact Or.inr (Or.inr (by decide +kernel))); have r7Y := hYX.nmR (i := 7) (x := "k") rfl (by first | exact Or.inl (by decide +kernel) | exact Or.inr (Or.inl (by decide +kernel)) | exact Or.inr (Or.inr (by decide +kernel))); have e_law_fraction := c_law_fraction.at hYX (by decide +kernel); have r0Y := hYX.nmR (i := 0) (x := "pool") rfl (by first | exact Or.inl (by decide +kernel) | exact Or.inr (Or.inl (by decide +kernel)) | exact Or.inr (Or.inr (by decide +kernel))); have e_law_pick := c_law_pick.at hYX (by decide +kernel); have e_law_positive := c_law_positive.at hYX (by decide +kernel)
        walk_at "go"
        refine jx_seq rfl (.inl rfl) l1 ?_
        walk_at "go"
        · rename_i hb
          refine ap_fraction hp fun a cds9 qa hp9 => ?_
          refine rtΦ_dat ?_
          exact ⟨_, ⟨[some (.r 0), some (.d (.int c)), some (.d (.int m)), some (.d (bls free)), none, none, none, none, none, none, none, none], [.nd .lst (cds9.map .d), .gone], 1⟩, rfl, rfl, rfl, rfl, cds9, xs ++ [a], hp9, by simp, qn a qa, nx a (.inl hb), rfl⟩
        · rename_i hb
          refine ap_pos hp fun a cds9 qa a0 hp9 => ?_
          refine rtΦ_dat ?_
          walk_at "go"
          refine ap_pick hp9 (.inl rfl) (by simp) (by simp) fun d cds8 hd hp8 => ?_
          refine rtΦ_dat ?_
          obtain ⟨b, rfl, qb, b0⟩ : ∃ b : Rat, d = frQ b ∧ QB 21 b ∧ 0 ≤ b := by
            simp only [List.mem_cons, List.not_mem_nil, or_false] at hd
            rcases hd with rfl | rfl
            · exact ⟨0, frQ_0, QB_0 (by decide), Rat.le_refl⟩
            · exact ⟨a, rfl, qa.mono (by decide), Rat.le_of_lt a0⟩
          exact ⟨_, ⟨[some (.r 0), some (.d (.int c)), some (.d (.int m)), some (.d (bls free)), none, none, none, none, none, none, none, none], [.nd .lst (cds8.map .d), .gone], 1⟩, rfl, rfl, rfl, rfl, cds8, xs ++ [b], hp8, by simp, qn b qb, nx b (.inr b0), rfl⟩
      · rintro ds t hdl ⟨cds2, x, hp2, rfl, hxq, hxf, rfl⟩
        have xl : x.length = c := by rw [List.length_map] at hdl; omega
        refine ⟨rfl, ?_⟩
        refine jss_frz' (k := 2) (kd := .lst) (ds := x.map frQ) rfl (dsOf_map _) (fun C fs z => by cases z) (show 1 ≤ 2 by decide) (s' := ⟨[some (.r 0), some (.d (.int c)), some (.d (.int m)), some (.d (bls free)), some (.d (frs x)), none, none, none, none, none, none, none], [.nd .lst (cds2.map .d), .gone, .gone], 1⟩) ?_ ?_
        · simp only [S.fz, S.set, S.put, S.push, setN, List.map_cons, List.map_nil, List.cons_append, List.nil_append, List.length_cons, List.length_nil, Option.map_some, Option.map_none, Cell.fz, E.fz, fz_map]
          rfl
        refine jss_set w5 (je_own (jn_lst ?_)) (by rfl)
        walk_at "st"
        refine ⟨by decide, rfl, ?_⟩
        refine jss_set w6 (je_own (jn_lst ?_)) (by rfl)
        walk_at "st"
        refine ⟨by decide, rfl, ?_⟩
        refine jss_for bx (fun i s => ∃ (cds : List D) (rows : List Rw) (y : List Rat) (o7 o8 o9 o10 : Option D), PoolD cds ∧ rows.length = i ∧ y.length = i ∧ (∀ q ∈ rows, RwOk c 240 q) ∧ (∀ a ∈ y, QB 21 a) ∧ (∀ q ∈ rows, ∀ a ∈ q.r, QB 21 a) ∧ (∀ (i : Nat) q v, rows[i]? = some q → y[i]? = some v → BR x q v) ∧ s = ⟨[some (.r 0), some (.d (.int c)), some (.d (.int m)), some (.d (bls free)), some (.d (frs x)), some (.r 3), some (.r 4), o7.map .d, o8.map .d, o9.map .d, o10.map .d, none], [.nd .lst (cds.map .d), .gone, .gone, .nd .lst ((rows.map rwD).map .d), .nd .lst ((y.map frQ).map .d)], 1⟩) (ji_range1 g_range ?_) (by intro _; rfl)
        walk_at "go"
        refine ⟨by omega, ⟨cds2, [], [], none, none, none, none, hp2, rfl, rfl, fun q h => (by cases h), fun q h => (by cases h), fun q h => (by cases h), fun i q v h => by simp at h, rfl⟩, ?_, ?_⟩
        · rintro i v s' hi he ⟨cds, rows, y, o7, o8, o9, o10, hp, rl, yl, hR, hy, hr21, hB, rfl⟩
          obtain rfl : v = _ := he
          walk_at "st"
          refine jss_set w8 (je_popT ?_) (by rfl)
          walk_at "go"
          refine ap_row hp (by omega) (by omega) fun r cds3 rl2 rq hp3 => ?_
          refine rtΦ_new ?_
          refine ⟨⟨[some (.r 0), some (.d (.int c)), some (.d (.int m)), some (.d (bls free)), some (.d (frs x)), some (.r 3), some (.r 4), some (.d (.int (0 + i))), o8.map .d, o9.map .d, o10.map .d, none], [.nd .lst (cds3.map .d), .gone, .gone, .nd .lst ((rows.map rwD).map .d), .nd .lst ((y.map frQ).map .d)], 1⟩, .lst, r.map frQ, rfl, rfl, Nat.le_refl _, tidy_5 _ _ _ _ (by cases o8 <;> cases o9 <;> cases o10 <;> rfl), ?_⟩
          walk_at "go"
          refine ap_pick hp3 (.inl rfl) (by simp) (by simp) fun d cds4 hd hp4 => ?_
          refine rtΦ_dat ?_
          obtain ⟨se, rfl, hse⟩ : ∃ se : Str, d = .str se ∧ (se = sJ ∨ se = sM) := by
            simp only [List.mem_cons, List.not_mem_nil, or_false] at hd
            rcases hd with rfl | rfl | rfl
            · exact ⟨_, rfl, .inl rfl⟩
            · exact ⟨_, rfl, .inr rfl⟩
            · exact ⟨_, rfl, .inr rfl⟩
          refine jss_set w10 (JE.mono (Φ := fun e1 s1 => ∃ (cds5 : List D) (mt : Bool), e1 = .d (.bl mt) ∧ PoolD cds5 ∧ (se = sJ → mt = true) ∧ s1 = ⟨[some (.r 0), some (.d (.int c)), some (.d (.int m)), some (.d (bls free)), some (.d (frs x)), some (.r 3), some (.r 4), some (.d (.int (0 + i))), some (.d (frs r)), some (.d (.str se)), o10.map .d, none], [.nd .lst (cds5.map .d), .gone, .gone, .nd .lst ((rows.map rwD).map .d), .nd .lst ((y.map frQ).map .d)], 1⟩) ?_ ?_) (by rfl)
          · walk_at "go"
            · exact ⟨cds4, true, by rename_i h; simp [h], hp4, fun _ => rfl, rfl⟩
            · rename_i h1
              refine ap_draw hp4 (lim_of (by decide) (by decide)) fun u cds5 u0 u1 hp5 => ?_
              refine rtΦ_dat ?_
              walk_at "go"
              exact ⟨cds5, _, rfl, hp5, fun h => absurd h h1, rfl⟩
          rintro e1 s1 ⟨cds5, mt, rfl, hp5, hmt, rfl⟩
          have dxq := dot_QB (k := 21) (l := 21) (by omega) (show r.length = x.length by omega) rq hxq
          refine jss_expr (je_append ?_) (by rfl)
          walk_at "go"
          refine ⟨3, _, rfl, rfl, ?_⟩
          refine JE.mono (Φ := fun e1 s1 => ∃ (cds6 : List D) (sl : Rat), e1 = .d (rwD ⟨r, se, (dots r x).sum + sl⟩) ∧ PoolD cds6 ∧ QB 4 sl ∧ 0 ≤ sl ∧ (mt = true → sl = 0) ∧ s1 = ⟨[some (.r 0), some (.d (.int c)), some (.d (.int m)), some (.d (bls free)), some (.d (frs x)), some (.r 3), some (.r 4), some (.d (.int (0 + i))), some (.d (frs r)), some (.d (.str se)), some (.d (.bl mt)), none], [.nd .lst (cds6.map .d), .gone, .gone, .nd .lst ((rows.map rwD).map .d), .nd .lst ((y.map frQ).map .d)], 1⟩) ?_ ?_
          · walk_at "go"
            refine ap_dot (by omega) (by omega) (fun a ha => (rq a ha).mono (by decide)) (fun a ha => (hxq a ha).mono (by decide)) ?_
            walk_at "go"
            · rename_i hm
              show R_add [frQ (dots r x).sum, frQ 0] _
              refine ap_op (1 + (21 + 21 + 1) * 5) 1 dxq (QB_0 (by decide)) (by decide) (by decide) (by decide) trivial ?_
              walk_at "go"
              exact ⟨cds5, 0, rfl, hp5, QB_0 (by decide), Rat.le_refl, fun _ => rfl, by rw [show mt = true from hm]; rfl⟩
            · rename_i hm
              refine ap_pos hp5 fun a cds6 qa a0 hp6 => ?_
              refine rtΦ_dat ?_
              walk_at "go"
              refine ap_op (1 + (21 + 21 + 1) * 5) 4 dxq qa (by decide) (by decide) (by decide) trivial ?_
              walk_at "go"
              exact ⟨cds6, a, rfl, hp6, qa, Rat.le_of_lt a0, fun h => absurd (h.symm.trans hm) (by decide), rfl⟩
          rintro e1 s1 ⟨cds6, sl, rfl, hp6, sq, s0, sz, rfl⟩
          refine ⟨_, rfl, by rw [List.length_map, List.length_map, sizeLine_eq]; omega, ?_⟩
          refine jss_expr (je_append ?_) (by rfl)
          walk_at "go"
          refine ⟨4, _, rfl, rfl, ?_⟩
          refine JE.mono (Φ := fun e1 s1 => ∃ (cds7 : List D) (v : Rat), e1 = .d (frQ v) ∧ PoolD cds7 ∧ QB 21 v ∧ (se = sJ ∨ 0 ≤ v) ∧ (v = 0 ∨ sl = 0) ∧ s1 = ⟨[some (.r 0), some (.d (.int c)), some (.d (.int m)), some (.d (bls free)), some (.d (frs x)), some (.r 3), some (.r 4), some (.d (.int (0 + i))), some (.d (frs r)), some (.d (.str se)), some (.d (.bl mt)), none], [.nd .lst (cds7.map .d), .gone, .gone, .nd .lst ((rows.map rwD).map .d ++ [.d (rwD ⟨r, se, (dots r x).sum + sl⟩)]), .nd .lst ((y.map frQ).map .d)], 1⟩) ?_ ?_
          · walk_at "go"
            · rename_i h1
              refine ap_fraction hp6 fun a cds7 qa hp7 => ?_
              refine rtΦ_dat ?_
              exact ⟨cds7, a, rfl, hp7, qa, .inl h1, .inr (sz (hmt h1)), rfl⟩
            · rename_i h1 h2
              refine ap_pos hp6 fun a cds7 qa a0 hp7 => ?_
              refine rtΦ_dat ?_
              walk_at "go"
              refine ap_pick hp7 (.inl rfl) (by simp) (by simp) fun d cds8 hd hp8 => ?_
              refine rtΦ_dat ?_
              obtain ⟨b, rfl, qb, b0⟩ : ∃ b : Rat, d = frQ b ∧ QB 21 b ∧ 0 ≤ b := by
                simp only [List.mem_cons, List.not_mem_nil, or_false] at hd
                rcases hd with rfl | rfl
                · exact ⟨0, frQ_0, QB_0 (by decide), Rat.le_refl⟩
                · exact ⟨a, rfl, qa.mono (by decide), Rat.le_of_lt a0⟩
              exact ⟨cds8, b, rfl, hp8, qb, .inr b0, .inr (sz h2), rfl⟩
            · exact ⟨cds6, 0, rfl, hp6, QB_0 (by decide), .inr Rat.le_refl, .inl rfl, rfl⟩
          rintro e1 s1 ⟨cds7, v, rfl, hp7, vq, vf, vz, rfl⟩
          refine ⟨_, rfl, by rw [List.length_map, List.length_map, sizeLine_eq]; omega, ?_⟩
          walk_at "go"
          have rl' : r.length = c := by omega
          have okq : RwOk c 240 ⟨r, se, (dots r x).sum + sl⟩ := ⟨rl', fun a ha => (rq a ha).mono (by decide), (dxq.add sq).mono (by decide), hse⟩
          have brq : BR x ⟨r, se, (dots r x).sum + sl⟩ v := by
            refine ⟨?_, ?_, ?_, ?_⟩
            · show (dots r x).sum ≤ (dots r x).sum + sl
              grind
            · intro h
              show (dots r x).sum = (dots r x).sum + sl
              rw [sz (hmt h)]; grind
            · unfold fac1
              rcases vf with h | h
              · rw [decide_eq_true h]; rfl
              · rw [decide_eq_true h, Bool.or_true]
            · rcases vz with h | h
              · exact .inl h
              · refine .inr ?_
                show (dots r x).sum = (dots r x).sum + sl
                rw [h]; grind
          refine ⟨cds7, rows ++ [⟨r, se, (dots r x).sum + sl⟩], y ++ [v], some (.int (0 + i)), some (frs r), some (.str se), some (.bl mt), hp7, by rw [List.length_append, rl]; rfl, by rw [List.length_append, yl]; rfl, fun q hq => ?_, fun a ha => ?_, fun q hq => ?_, fun j q u h1 h2 => ?_, ?_⟩
          · rcases List.mem_append.mp hq with hq | hq
            · exact hR q hq
            · obtain rfl : q = _ := by simpa using hq
              exact okq
          · rcases List.mem_append.mp ha with ha | ha
            · exact hy a ha
            · obtain rfl : a = _ := by simpa using ha
              exact vq
          · rcases List.mem_append.mp hq with hq | hq
            · exact hr21 q hq
            · obtain rfl : q = _ := by simpa using hq
              exact rq
          · rcases app_get h1 with h1 | ⟨z1, rfl⟩
            · have hil := (List.getElem?_eq_some_iff.mp h1).1
              rw [List.getElem?_append_left (by omega)] at h2
              exact hB j q u h1 h2
            · rcases app_get h2 with h2 | ⟨z2, rfl⟩
              · have hil := (List.getElem?_eq_some_iff.mp h2).1
                omega
              · exact brq
          · rw [List.map_append, List.map_append, List.map_append, List.map_append]; rfl
        · rintro s' ⟨cds, rows, y, o7, o8, o9, o10, hp, rl, yl, hR, hy, hr21, hB, rfl⟩
          have rl : rows.length = m := by omega
          have yl : y.length = m := by omega
          refine jss_frz' (k := 3) (kd := .lst) (ds := rows.map rwD) rfl (dsOf_map _) (fun C fs z => by cases z) (show 1 ≤ 3 by decide) (s' := ⟨[some (.r 0), some (.d (.int c)), some (.d (.int m)), some (.d (bls free)), some (.d (frs x)), some (.d (rwsD rows)), some (.r 4), o7.map .d, o8.map .d, o9.map .d, o10.map .d, none], [.nd .lst (cds.map .d), .gone, .gone, .gone, .nd .lst ((y.map frQ).map .d)], 1⟩) ?_ ?_
          · simp only [S.fz, S.set, S.put, S.push, setN, List.map_cons, List.map_nil, List.cons_append, List.nil_append, List.length_cons, List.length_nil, Option.map_some, Option.map_none, Cell.fz, E.fz, fz_map]
            cases o7 <;> cases o8 <;> cases o9 <;> cases o10 <;> rfl
          refine jss_frz' (k := 4) (kd := .lst) (ds := y.map frQ) rfl (dsOf_map _) (fun C fs z => by cases z) (show 1 ≤ 4 by decide) (s' := ⟨[some (.r 0), some (.d (.int c)), some (.d (.int m)), some (.d (bls free)), some (.d (frs x)), some (.d (rwsD rows)), some (.d (frs y)), o7.map .d, o8.map .d, o9.map .d, o10.map .d, none], [.nd .lst (cds.map .d), .gone, .gone, .gone, .gone], 1⟩) ?_ ?_
          · simp only [S.fz, S.set, S.put, S.push, setN, List.map_cons, List.map_nil, List.cons_append, List.nil_append, List.length_cons, List.length_nil, Option.map_some, Option.map_none, Cell.fz, E.fz, fz_map]
            cases o7 <;> cases o8 <;> cases o9 <;> cases o10 <;> rfl
          refine jss_set w11 ?_ (by rfl)
          walk_at "st"
          refine ja_cons (je_cut (e1 := .d (matD (rowsR rows))) ?_ ?_) (by rfl)
          · refine je_lcP bx (blk_ok hX (own := [("row", 8)]) (by decide +kernel)) (j := 8) (by decide) (fun Y hY => (hY.is hX).nmW rfl (by decide +kernel)) (ji_lst ?_) (by intro _; rfl)
            walk_at "go"
            refine ⟨rfl, by rw [List.length_map]; omega, fun i => frs ((rowsR rows).getD i []), ?_, ?_, rfl⟩
            · rintro i v acc hi ⟨d, hd, rfl⟩ Y hY
              rw [List.getElem?_map] at hd
              cases ex : rows[i]? with
              | none => rw [ex] at hd; cases hd
              | some q =>
                rw [ex] at hd
                cases hd
                have hg : (rowsR rows).getD i [] = q.r := getD_at (by rw [List.getElem?_map, ex]; rfl)
                have hYX := hY.is hX; have bY := hYX.bx; have r8Y := hYX.nmR (i := 8) (x := "row") rfl (by first | exact Or.inl (by decide +kernel) | exact Or.inr (Or.inl (by decide +kernel)) | exact Or.inr (Or.inr (by decide +kernel)))
                walk_at "go"
                exact ⟨by show _ = E.d (frs ((rowsR rows).getD i [])); rw [hg], rfl⟩
            · have e := range_getD frs [] (rowsR rows)
              rw [List.length_map] at e
              rw [List.length_map, e]
          walk_at "go"
          have hRl : (rowsR rows).length = rows.length := List.length_map _
          have hRc : ∀ r ∈ rowsR rows, r.length = c := fun r h => by
            obtain ⟨q, hq, rfl⟩ := List.mem_map.mp h
            exact (hR q hq).l
          have hR21 : ∀ r ∈ rowsR rows, ∀ a ∈ r, QB 21 a := fun r h => by
            obtain ⟨q, hq, rfl⟩ := List.mem_map.mp h
            exact hr21 q hq
          refine ap_combO (c := c) ⟨by omega, by omega, fun r hr => ⟨hRc r hr, fun a ha => (hR21 r hr a ha).mono (by decide)⟩⟩ (by omega) (fun a ha => (hy a ha).mono (by decide)) ?_
          rw [hRl]
          have Ol := comb_len (R := rowsR rows) (fs := y) (c := c) (by omega) hRc rows.length (by omega)
          have Oq := comb_QBk (R := rowsR rows) (fs := y) (c := c) (k := 21) (l := 21) (by omega) hR21 hy rows.length (by omega)
          refine rtX_P ?_ rfl
          refine rtΦ_new ?_
          refine jss_for bx (fun i s => ∃ (cds : List D) (g : List Rat) (o7 : Option D), PoolD cds ∧ g.length = c ∧ (∀ a ∈ g, QB 230 a) ∧ (∀ j, i ≤ j → g[j]? = (comb (rowsR rows) y c rows.length)[j]?) ∧ (∀ (j : Nat) f a o b, free[j]? = some f → x[j]? = some a → (comb (rowsR rows) y c rows.length)[j]? = some o → g[j]? = some b → GOk f a o b) ∧ s = ⟨[some (.r 0), some (.d (.int c)), some (.d (.int m)), some (.d (bls free)), some (.d (frs x)), some (.d (rwsD rows)), some (.d (frs y)), o7.map .d, o8.map .d, o9.map .d, o10.map .d, some (.r 5)], [.nd .lst (cds.map .d), .gone, .gone, .gone, .gone, .nd .lst ((g.map frQ).map .d)], 1⟩) (ji_range1 g_range ?_) (by intro _; rfl)
          walk_at "go"
          refine ⟨by omega, ⟨cds, _, o7, hp, Ol, fun a ha => (Oq a ha).mono (by omega), fun j _ => rfl, fun j f a o b h1 h2 h3 h4 => by rw [h3] at h4; cases h4; exact .inl rfl, rfl⟩, ?_, ?_⟩
          · rintro i v s' hi he ⟨cds, g, o7, hp, gl, gq, ge, gG, rfl⟩
            obtain rfl : v = _ := he
            have hi2 : i < c := by omega
            have e1 : free[i]? = some (free[i]'(by omega)) := List.getElem?_eq_getElem (by omega)
            have e2 : x[i]? = some (x[i]'(by omega)) := List.getElem?_eq_getElem (by omega)
            have e3 : (comb (rowsR rows) y c rows.length)[i]? = some ((comb (rowsR rows) y c rows.length)[i]'(by omega)) := List.getElem?_eq_getElem (by omega)
            generalize free[i]'(by omega) = f at e1
            generalize x[i]'(by omega) = a at e2
            generalize (comb (rowsR rows) y c rows.length)[i]'(by omega) = o at e3
            have e4 : g[i]? = some o := by rw [ge i (Nat.le_refl _), e3]
            have qo := Oq o (List.mem_of_getElem? e3)
            have l1 : L2.atI ((free.map D.bl).map E.d) (i : Int) = some (.d (.bl f)) := L2.atI_nat (by rw [List.getElem?_map, List.getElem?_map, e1]; rfl)
            have l2 : L2.atI ((x.map frQ).map E.d) (i : Int) = some (.d (frQ a)) := L2.atI_nat (by rw [List.getElem?_map, List.getElem?_map, e2]; rfl)
            have l3 : L2.atI ((g.map frQ).map E.d) (i : Int) = some (.d (frQ o)) := L2.atI_nat (by rw [List.getElem?_map, List.getElem?_map, e4]; rfl)
            have zi : (0 : Int) + i = i := Int.zero_add _
            rw [zi]
            walk_at "go"
            refine jx_seq rfl (.inl rfl) l1 ?_
            walk_at "go"
            · rename_i hf
              refine jx_seq rfl (.inl rfl) l2 ?_
              walk_at "go"
              refine jr_eqQ (y := 0) bx ?_
              walk_at "go"
              · rename_i ha
                refine ap_draw hp (lim_of (by decide) (by decide)) fun v cds9 v0 v1 hp9 => ?_
                refine rtΦ_dat ?_
                walk_at "go"
                · refine jx_seq rfl (.inl rfl) l3 ?_
                  walk_at "go"
                  refine ap_pos hp9 fun p cds8 qp p0 hp8 => ?_
                  refine rtΦ_dat ?_
                  walk_at "go"
                  refine ap_op (1 + (21 + 21 + 1) * rows.length) 4 qo qp (by omega) (by decide) (by omega) trivial ?_
                  walk_at "go"
                  refine .inl ⟨5, _, _, i, rfl, rfl, rfl, ixN_natQ (by rw [List.length_map, List.length_map]; omega), ?_⟩
                  walk_at "go"
                  refine ⟨cds8, g.set i (o - p), some (.int i), hp8, by rw [List.length_set]; exact gl, fun z hz => ?_, fun j hj => by rw [List.getElem?_set_ne (by omega)]; exact ge j (by omega), fun j f' a' o' b h1 h2 h3 h4 => ?_, ?_⟩
                  · rcases List.mem_or_eq_of_mem_set hz with hz | hz
                    · exact gq z hz
                    · rw [hz]; exact (qo.sub qp).mono (by omega)
                  · by_cases hj : j = i
                    · subst hj
                      rw [List.getElem?_set_self (by omega)] at h4
                      rw [e1] at h1; rw [e2] at h2; rw [e3] at h3
                      cases h1; cases h2; cases h3; cases h4
                      exact .inr ⟨by simpa using hf, ha, by grind⟩
                    · rw [List.getElem?_set_ne (by omega)] at h4
                      exact gG j f' a' o' b h1 h2 h3 h4
                  · rw [List.map_set, List.map_set]; rfl
                · exact ⟨cds9, g, some (.int i), hp9, gl, gq, fun j hj => ge j (by omega), gG, rfl⟩
              · exact ⟨cds, g, some (.int i), hp, gl, gq, fun j hj => ge j (by omega), gG, rfl⟩
            · exact ⟨cds, g, some (.int i), hp, gl, gq, fun j hj => ge j (by omega), gG, rfl⟩
          · rintro s' ⟨cds, g, o7, hp, gl, gq, ge, gG, rfl⟩
            refine jss_frz' (k := 5) (kd := .lst) (ds := g.map frQ) rfl (dsOf_map _) (fun C fs z => by cases z) (show 1 ≤ 5 by decide) (s' := ⟨[some (.r 0), some (.d (.int c)), some (.d (.int m)), some (.d (bls free)), some (.d (frs x)), some (.d (rwsD rows)), some (.d (frs y)), o7.map .d, o8.map .d, o9.map .d, o10.map .d, some (.d (frs g))], [.nd .lst (cds.map .d), .gone, .gone, .gone, .gone, .gone], 1⟩) ?_ ?_
            · simp only [S.fz, S.set, S.put, S.push, setN, List.map_cons, List.map_nil, List.cons_append, List.nil_append, List.length_cons, List.length_nil, Option.map_some, Option.map_none, Cell.fz, E.fz, fz_map]
              cases o7 <;> cases o8 <;> cases o9 <;> cases o10 <;> rfl
            walk_at "go"
            refine ⟨.lst, _, _, rfl, dsOf_map _, k g rows free x y cds rl xl yl gl fl hR (fun q hq a ha => (hr21 q hq a ha).mono (by decide)) (fun a ha => (hxq a ha).mono (by decide)) (fun a ha => (hy a ha).mono (by decide)) (fun a ha => (gq a ha).mono (by decide)) ?_ hp⟩
            exact best_ok (c := c) (fun q hq => (hR q hq).l) fl xl (by omega) gl hB hxf gG
end
local macro_rules | `(tactic| walk_at "je") => `(tactic| (with_reducible refine' je_sliceL ?_))
theorem tidy_3 (cds es : List D) (sl : List (Option E)) (h : sl.all (E.ltB 3) = true) : TidyB ⟨sl, [.nd .lst (cds.map .d), .gone, .nd .lst (es.map .d)], 1⟩ = true := by
  unfold TidyB
  simp only [Bool.and_eq_true, decide_eq_true_eq]
  refine ⟨⟨h, ?_⟩, by show 1 ≤ 3; decide⟩
  show ((cds.map E.d).all (E.lt 3) && (true && ((es.map E.d).all (E.lt 3) && true))) = true
  rw [lt_ds, lt_ds]; rfl
theorem tidy_4 (cds es : List D) (sl : List (Option E)) (h : sl.all (E.ltB 4) = true) : TidyB ⟨sl, [.nd .lst (cds.map .d), .gone, .nd .lst (es.map .d), .gone], 1⟩ = true := by
  unfold TidyB
  simp only [Bool.and_eq_true, decide_eq_true_eq]
  refine ⟨⟨h, ?_⟩, by show 1 ≤ 4; decide⟩
  show ((cds.map E.d).all (E.lt 4) && (true && ((es.map E.d).all (E.lt 4) && (true && true)))) = true
  rw [lt_ds, lt_ds]; rfl
theorem tidy_5g (cds : List D) (sl : List (Option E)) (h : sl.all (E.ltB 5) = true) : TidyB ⟨sl, [.nd .lst (cds.map .d), .gone, .gone, .gone, .gone], 1⟩ = true := by
  unfold TidyB
  simp only [Bool.and_eq_true, decide_eq_true_eq]
  refine ⟨⟨h, ?_⟩, by show 1 ≤ 5; decide⟩
  show ((cds.map E.d).all (E.lt 5) && (true && (true && (true && (true && true))))) = true
  rw [lt_ds]; rfl
theorem cut_init (xs : List Rat) (a : Rat) : DL.cutD ((xs ++ [a]).map frQ) none (some (-1)) = xs.map frQ := by
  unfold DL.cutD
  have e : HT.sIx ((xs ++ [a]).map frQ).length ((xs ++ [a]).map frQ).length (some (-1)) = xs.length := by
    rw [List.length_map, List.length_append]
    unfold HT.sIx
    simp
    try omega
  rw [e, HT.sIx_none, List.drop_zero, Nat.sub_zero, List.map_append, List.take_append_of_le_length (by rw [List.length_map]; exact Nat.le_refl _), ← List.length_map (f := frQ), List.take_length]
theorem dot_QBn {xs ys : List Rat} {k l n : Nat} (h : xs.length ≤ n) (hl : xs.length = ys.length) (h1 : ∀ x ∈ xs, QB k x) (h2 : ∀ y ∈ ys, QB l y) : QB (1 + (k + l + 1) * n) (dots xs ys).sum := by
  have h3 := sum_QBk (dots_QBk h1 h2) (dots xs ys).length (Nat.le_refl _)
  rw [List.take_length, dots_len hl] at h3
  exact h3.mono (Nat.add_le_add_left (Nat.mul_le_mul_left _ h) _)
def R_mnone : RC1 := fun kd cds ds post => kd = .lst ∧ PoolD cds ∧ ∃ (c m : Nat), ds = [.int c, .int m] ∧ 0 < c ∧ c ≤ 4 ∧ 0 < m ∧ m ≤ 5 ∧ ∀ (goal : List Rat) (rows : List Rw) (free : List Bool) (y : List Rat) cds', rows.length = m + 1 → y.length = m + 1 → goal.length = c → free.length = c → (∀ q ∈ rows, RwOk c 240 q) → (∀ q ∈ rows, ∀ a ∈ q.r, QB 240 a) → (∀ a ∈ y, QB 39 a) → (∀ a ∈ goal, QB 240 a) → noneV goal rows free y = true → PoolD cds' → post (.dat (mdD goal rows free .non y)) .lst cds'
theorem ap_mnone {cds : List D} {c m : Nat} {post : Rt → Kd → List D → Prop} (hp : PoolD cds) (h1 : 0 < c) (h2 : c ≤ 4) (h3 : 0 < m) (h4 : m ≤ 5) (h : ∀ (goal : List Rat) (rows : List Rw) (free : List Bool) (y : List Rat) cds', rows.length = m + 1 → y.length = m + 1 → goal.length = c → free.length = c → (∀ q ∈ rows, RwOk c 240 q) → (∀ q ∈ rows, ∀ a ∈ q.r, QB 240 a) → (∀ a ∈ y, QB 39 a) → (∀ a ∈ goal, QB 240 a) → noneV goal rows free y = true → PoolD cds' → post (.dat (mdD goal rows free .non y)) .lst cds') : R_mnone .lst cds [.int c, .int m] post := ⟨rfl, hp, c, m, rfl, h1, h2, h3, h4, h⟩
theorem mo_mnone : MonoC R_mnone := fun kd cds ds p q m ⟨a, b, c, d, e, f, g, i, j, h⟩ => ⟨a, b, c, d, e, f, g, i, j, fun u1 u2 u3 u4 u5 h1 h2 h3 h4 h5 h6 h7 h8 h9 h10 => m _ _ _ (h u1 u2 u3 u4 u5 h1 h2 h3 h4 h5 h6 h7 h8 h9 h10)⟩
section
variable {P : Program} {w : World} {K : PySem.W.Frag} {mg : Str → Option Value} {base : Heap}
theorem ok_law_made_none {f : Addr} {fd : FuncData} (C : Bs2 mg) (c_law_row : CaC P w K mg base "_law_row" 5 R_row) (c_law_draw : CaC P w K mg base "_law_draw" 3 R_draw) (c_law_pick : CaC P w K mg base "_law_pick" 4 R_pick) (c_law_fraction : CaC P w K mg base "_law_fraction" 4 R_fraction) (c_law_positive : CaC P w K mg base "_law_positive" 4 R_pos) (c_law_combined : CaP P w K mg base "_law_combined" 5 R_comb) (c_law_sub : CaP P w K mg base "_law_sub" 3 R_less) (c_law_add : CaP P w K mg base "_law_add" 3 R_add) (c_law_value : CaP P w K mg base "_law_value" 5 R_val) (Fu : Fun K "_law_made_none" "_law_made_none" s_law_made_none f fd) : FnOk P w K mg base CX0 6 f fd ["pool", "count", "many"] (spC K R_mnone) := by
  refine fn_C Fu sc_law_made_none (fun kd cds ds post h => ?_) fun X F kd cds ds post hX hfn hH h => ?_
  · obtain ⟨_, _, _, _, rfl, _⟩ := h
    rfl
  · obtain ⟨rfl, hp, c, m, rfl, hc0, hc4, hm0, hm5, k⟩ := h
    have bx := hX.bx
    have r0 := hX.nmR (i := 0) (x := "pool") rfl (by first | exact Or.inl (by decide +kernel) | exact Or.inr (Or.inl (by decide +kernel))); have w0 := hX.nmC (i := 0) (x := "pool") rfl (by decide +kernel) (hfn _); have r1 := hX.nmR (i := 1) (x := "count") rfl (by first | exact Or.inl (by decide +kernel) | exact Or.inr (Or.inl (by decide +kernel))); have w1 := hX.nmC (i := 1) (x := "count") rfl (by decide +kernel) (hfn _); have r2 := hX.nmR (i := 2) (x := "many") rfl (by first | exact Or.inl (by decide +kernel) | exact Or.inr (Or.inl (by decide +kernel))); have w2 := hX.nmW (i := 2) (x := "many") rfl (by decide +kernel); have r3 := hX.nmR (i := 3) (x := "free") rfl (by first | exact Or.inl (by decide +kernel) | exact Or.inr (Or.inl (by decide +kernel))); have w3 := hX.nmW (i := 3) (x := "free") rfl (by decide +kernel); have r4 := hX.nmR (i := 4) (x := "rows") rfl (by first | exact Or.inl (by decide +kernel) | exact Or.inr (Or.inl (by decide +kernel))); have w4 := hX.nmW (i := 4) (x := "rows") rfl (by decide +kernel); have r5 := hX.nmR (i := 5) (x := "y") rfl (by first | exact Or.inl (by decide +kernel) | exact Or.inr (Or.inl (by decide +kernel))); have w5 := hX.nmW (i := 5) (x := "y") rfl (by decide +kernel); have r6 := hX.nmR (i := 6) (x := "found") rfl (by first | exact Or.inl (by decide +kernel) | exact Or.inr (Or.inl (by decide +kernel))); have w6 := hX.nmW (i := 6) (x := "found") rfl (by decide +kernel); have r7 := hX.nmR (i := 7) (x := "last") rfl (by first | exact Or.inl (by decide +kernel) | exact Or.inr (Or.inl (by decide +kernel))); have w7 := hX.nmW (i := 7) (x := "last") rfl (by decide +kernel); have r8 := hX.nmR (i := 8) (x := "k") rfl (by first | exact Or.inl (by decide +kernel) | exact Or.inr (Or.inl (by decide +kernel))); have w8 := hX.nmW (i := 8) (x := "k") rfl (by decide +kernel); have r9 := hX.nmR (i := 9) (x := "more") rfl (by first | exact Or.inl (by decide +kernel) | exact Or.inr (Or.inl (by decide +kernel))); have w9 := hX.nmW (i := 9) (x := "more") rfl (by decide +kernel); have r10 := hX.nmR (i := 10) (x := "right") rfl (by first | exact Or.inl (by decide +kernel) | exact Or.inr (Or.inl (by decide +kernel))); have w10 := hX.nmW (i := 10) (x := "right") rfl (by decide +kernel); have g_range := hX.glb (x := "range") (by decide +kernel) C.b_range; have d_law_combined := c_law_combined.at hX (by decide +kernel); have d_law_draw := c_law_draw.at hX (by decide +kernel); have d_law_positive := c_law_positive.at hX (by decide +kernel); have d_law_sub := c_law_sub.at hX (by decide +kernel); have d_law_add := c_law_add.at hX (by decide +kernel); have d_law_value := c_law_value.at hX (by decide +kernel); have d_law_pick := c_law_pick.at hX (by decide +kernel); have d_law_row := c_law_row.at hX (by decide +kernel)
    conv => (arg 3; whnf)
    refine jss_cons (js_setLcI bx w3 (hX.loc (by decide +kernel)) (by rw [env_eq hX.eS]; rfl) (blk_ok hX (own := [("k", 8)]) (by decide +kernel)) (j := 8) (by decide) (fun Y hY => (hY.is hX).nmW rfl (by decide +kernel)) (ji_range1 g_range ?_) (by intro _; rfl))
    walk_at "go"
    refine ⟨by omega, by omega, fun j ds t => ∃ (cds : List D) (bs : List Bool), PoolD cds ∧ ds = bs.map D.bl ∧ t = ⟨[some (.r 0), some (.d (.int c)), some (.d (.int m)), none, none, none, none, none, none, none, none, none], [.nd .lst (cds.map .d)], 1⟩, ⟨cds, [], hp, rfl, rfl⟩, ?_, ?_⟩
    · rintro j e ds t hj he hdl ⟨cds, bs, hp, rfl, rfl⟩
      refine ⟨rfl, rfl, fun Y hY => ?_⟩
      have hYX := hY.is hX; have bY := hYX.bx; have e_law_draw := c_law_draw.at hYX (by decide +kernel); have r0Y := hYX.nmR (i := 0) (x := "pool") rfl (by first | exact Or.inl (by decide +kernel) | exact Or.inr (Or.inl (by decide +kernel)) | exact Or.inr (Or.inr (by decide +kernel)))
      walk_at "go"
      refine ap_draw hp (lim_of (by decide) (by decide)) fun v cds9 v0 v1 hp9 => ?_
      refine rtΦ_dat ?_
      walk_at "go"
      refine ⟨_, ⟨[some (.r 0), some (.d (.int c)), some (.d (.int m)), none, none, none, none, none, none, none, none, none], [.nd .lst (cds9.map .d)], 1⟩, rfl, rfl, rfl, rfl, cds9, bs ++ [decide (v = 0)], hp9, by simp, rfl⟩
    rintro ds t hdl ⟨cds1, free, hp1, rfl, rfl⟩
    have fl : free.length = c := by rw [List.length_map] at hdl; omega
    refine ⟨rfl, ?_⟩
    refine jss_frz' (k := 1) (kd := .lst) (ds := free.map D.bl) rfl (dsOf_map _) (fun C fs z => by cases z) (show 1 ≤ 1 by decide) (s' := ⟨[some (.r 0), some (.d (.int c)), some (.d (.int m)), some (.d (bls free)), none, none, none, none, none, none, none, none], [.nd .lst (cds1.map .d), .gone], 1⟩) (by simp only [S.fz, S.set, S.put, S.push, setN, List.map_cons, List.map_nil, List.cons_append, List.nil_append, List.length_cons, List.length_nil, Option.map_some, Option.map_none, Cell.fz, E.fz, fz_map]; rfl) ?_
    refine jss_cons (js_setLcI bx w4 (hX.loc (by decide +kernel)) (by rw [env_eq hX.eS]; rfl) (blk_ok hX (own := [("k", 8)]) (by decide +kernel)) (j := 8) (by decide) (fun Y hY => (hY.is hX).nmW rfl (by decide +kernel)) (ji_range1 g_range ?_) (by intro _; rfl))
    walk_at "go"
    refine ⟨by omega, by omega, fun j ds t => ∃ (cds : List D) (rows : List Rw), PoolD cds ∧ ds = rows.map rwD ∧ (∀ q ∈ rows, RwOk c 21 q ∧ ∀ a ∈ q.r, QB 21 a) ∧ t = ⟨[some (.r 0), some (.d (.int c)), some (.d (.int m)), some (.d (bls free)), none, none, none, none, none, none, none, none], [.nd .lst (cds.map .d), .gone], 1⟩, ⟨cds1, [], hp1, rfl, fun x hx => (by cases hx), rfl⟩, ?_, ?_⟩
    · rintro j e ds t hj he hdl ⟨cds, rows, hp, rfl, hR, rfl⟩
      refine ⟨rfl, rfl, fun Y hY => ?_⟩
      have hYX := hY.is hX; have bY := hYX.bx; have e_law_row := c_law_row.at hYX (by decide +kernel); have r0Y := hYX.nmR (i := 0) (x := "pool") rfl (by first | exact Or.inl (by decide +kernel) | exact Or.inr (Or.inl (by decide +kernel)) | exact Or.inr (Or.inr (by decide +kernel))); have r1Y := hYX.nmR (i := 1) (x := "count") rfl (by first | exact Or.inl (by decide +kernel) | exact Or.inr (Or.inl (by decide +kernel)) | exact Or.inr (Or.inr (by decide +kernel))); have e_law_pick := c_law_pick.at hYX (by decide +kernel); have e_law_fraction := c_law_fraction.at hYX (by decide +kernel)
      refine je_tup (ja_cons (je_popT ?_) (by rfl))
      walk_at "go"
      refine ap_row hp (by omega) (by omega) fun r cds3 rl rq hp3 => ?_
      refine rtΦ_new ?_
      refine ⟨⟨[some (.r 0), some (.d (.int c)), some (.d (.int m)), some (.d (bls free)), none, none, none, none, some e, none, none, none], [.nd .lst (cds3.map .d), .gone, .nd .lst ((rows.map rwD).map .d)], 1⟩, .lst, r.map frQ, rfl, rfl, Nat.le_refl _, tidy_3 _ _ _ (by rw [show e = _ from he]; rfl), ?_⟩
      walk_at "go"
      refine ap_pick hp3 (.inl rfl) (by simp) (by simp) fun d cds4 hd hp4 => ?_
      refine rtΦ_dat ?_
      obtain ⟨se, rfl, hse⟩ : ∃ se : Str, d = .str se ∧ (se = sJ ∨ se = sM) := by
        simp only [List.mem_cons, List.not_mem_nil, or_false] at hd
        rcases hd with rfl | rfl
        · exact ⟨_, rfl, .inl rfl⟩
        · exact ⟨_, rfl, .inr rfl⟩
      walk_at "go"
      refine ap_fraction hp4 fun b cds5 qb hp5 => ?_
      refine rtΦ_dat ?_
      walk_at "go"
      refine ⟨_, ⟨[some (.r 0), some (.d (.int c)), some (.d (.int m)), some (.d (bls free)), none, none, none, none, none, none, none, none], [.nd .lst (cds5.map .d), .gone], 1⟩, rfl, rfl, rfl, rfl, cds5, rows ++ [⟨r, se, b⟩], hp5, by simp, fun q hq => ?_, rfl⟩
      rcases List.mem_append.mp hq with hq | hq
      · exact hR q hq
      · obtain rfl : q = _ := by simpa using hq
        exact ⟨⟨by show r.length = c; omega, fun a ha => (rq a ha).mono (by decide), qb, hse⟩, rq⟩
    rintro ds t hdl ⟨cds2, rows, hp2, rfl, hR, rfl⟩
    have rl : rows.length = m := by rw [List.length_map] at hdl; omega
    refine ⟨rfl, ?_⟩
    refine jss_cons (js_setLcO bx w5 (hX.loc (by decide +kernel)) (by rw [env_eq hX.eS]; rfl) (blk_ok hX (own := [("row", 11)]) (by decide +kernel)) (j := 11) (by decide) (fun Y hY => (hY.is hX).nmW rfl (by decide +kernel)) ?_ (by intro _; rfl))
    dsimp only [LcO]
    walk_at "go"
    refine ⟨2, rows.map rwD, rfl, rfl, by rw [List.length_map]; omega, fun j ds t => ∃ (cds : List D) (ys : List Rat), PoolD cds ∧ ds = ys.map frQ ∧ (∀ a ∈ ys, QB 21 a) ∧ (∀ (i : Nat) q v, rows[i]? = some q → ys[i]? = some v → fac1 q v = true) ∧ t = ⟨[some (.r 0), some (.d (.int c)), some (.d (.int m)), some (.d (bls free)), some (.r 2), none, none, none, none, none, none, none], [.nd .lst (cds.map .d), .gone, .nd .lst ((rows.map rwD).map .d)], 1⟩, ⟨cds2, [], hp2, rfl, fun x hx => (by cases hx), fun i q v _ h => by simp at h, rfl⟩, fun i acc t ⟨_, _, _, _, _, _, e⟩ => by subst e; exact ⟨rfl, rfl, rfl⟩, ?_, ?_⟩
    · rintro j dv acc t hv hal ⟨cds, ys, hp, rfl, hyq, hyf, rfl⟩ Y hY
      rw [List.getElem?_map] at hv
      have hyl : ys.length = j := by rw [List.length_map] at hal; exact hal
      cases ex : rows[j]? with
      | none => rw [ex] at hv; cases hv
      | some q =>
        rw [ex] at hv
        cases hv
        have nx : ∀ v : Rat, (q.s = sJ ∨ 0 ≤ v) → ∀ (i : Nat) q v', rows[i]? = some q → (ys ++ [v])[i]? = some v' → fac1 q v' = true := fun v hv i q' v' h1 h2 => by
          rcases app_get h2 with h2 | ⟨z1, z2⟩
          · exact hyf i q' v' h1 h2
          · rw [z1, hyl, ex] at h1
            cases h1
            rw [z2]
            unfold fac1
            rcases hv with h | h
            · rw [decide_eq_true h]; rfl
            · rw [decide_eq_true h, Bool.or_true]
        have qn : ∀ a : Rat, QB 21 a → ∀ b ∈ ys ++ [a], QB 21 b := fun a ha b hb => by
          rcases List.mem_append.mp hb with hb | hb
          · exact hyq b hb
          · have : b = a := by simpa using hb
            rw [this]; exact ha
        have hYX := hY.is hX; have bY := hYX.bx; have e_law_fraction := c_law_fraction.at hYX (by decide +kernel); have r0Y := hYX.nmR (i := 0) (x := "pool") rfl (by first | exact Or.inl (by decide +kernel) | exact Or.inr (Or.inl (by decide +kernel)) | exact Or.inr (Or.inr (by decide +kernel))); have e_law_pick := c_law_pick.at hYX (by decide +kernel); have r11Y := hYX.nmR (i := 11) (x := "row") rfl (by first | exact Or.inl (by decide +kernel) | exact Or.inr (Or.inl (by decide +kernel)) | exact Or.inr (Or.inr (by decide +kernel))); have e_law_positive := c_law_positive.at hYX (by decide +kernel)
        walk_at "go"
        · rename_i h1
          refine ap_fraction hp fun a cds9 qa hp9 => ?_
          refine rtΦ_dat ?_
          exact ⟨_, ⟨[some (.r 0), some (.d (.int c)), some (.d (.int m)), some (.d (bls free)), some (.r 2), none, none, none, none, none, none, none], [.nd .lst (cds9.map .d), .gone, .nd .lst ((rows.map rwD).map .d)], 1⟩, rfl, rfl, cds9, ys ++ [a], hp9, by simp, qn a qa, nx a (.inl h1), rfl⟩
        · rename_i h1
          refine ap_pos hp fun a cds9 qa a0 hp9 => ?_
          refine rtΦ_dat ?_
          walk_at "go"
          refine ap_pick hp9 (.inl rfl) (by simp) (by simp) fun d cds8 hd hp8 => ?_
          refine rtΦ_dat ?_
          obtain ⟨b, rfl, qb, b0⟩ : ∃ b : Rat, d = frQ b ∧ QB 21 b ∧ 0 ≤ b := by
            simp only [List.mem_cons, List.not_mem_nil, or_false] at hd
            rcases hd with rfl | rfl
            · exact ⟨0, frQ_0, QB_0 (by decide), Rat.le_refl⟩
            · exact ⟨a, rfl, qa.mono (by decide), Rat.le_of_lt a0⟩
          exact ⟨_, ⟨[some (.r 0), some (.d (.int c)), some (.d (.int m)), some (.d (bls free)), some (.r 2), none, none, none, none, none, none, none], [.nd .lst (cds8.map .d), .gone, .nd .lst ((rows.map rwD).map .d)], 1⟩, rfl, rfl, cds8, ys ++ [b], hp8, by simp, qn b qb, nx b (.inr b0), rfl⟩
    rintro ds t hdl ⟨cds3, ys, hp3, rfl, hyq, hyf, rfl⟩
    have yl : ys.length = m := by rw [List.length_map, List.length_map] at hdl; omega
    refine jss_expr (je_append ?_) (by rfl)
    walk_at "go"
    refine ⟨3, _, rfl, rfl, ?_⟩
    walk_at "go"
    refine ⟨by rw [List.length_map, List.length_map, sizeLine_eq]; omega, ?_⟩
    refine jss_frz' (k := 3) (kd := .lst) (ds := (ys ++ [1]).map frQ) (es := ((ys ++ [1]).map frQ).map .d) ?_ (dsOf_map _) (fun C fs z => by cases z) (show 1 ≤ 3 by decide) (s' := ⟨[some (.r 0), some (.d (.int c)), some (.d (.int m)), some (.d (bls free)), some (.r 2), some (.d (frs (ys ++ [1]))), none, none, none, none, none, none], [.nd .lst (cds3.map .d), .gone, .nd .lst ((rows.map rwD).map .d), .gone], 1⟩) (by simp only [S.fz, S.set, S.put, S.push, setN, List.map_cons, List.map_nil, List.cons_append, List.nil_append, List.length_cons, List.length_nil, Option.map_some, Option.map_none, Cell.fz, E.fz, fz_map]; rfl) ?_
    · rw [List.map_append, List.map_append]; rfl
    refine jss_set w6 ?_ (by rfl)
    walk_at "st"
    refine ja_cons (je_popT (je_lcO bx (blk_ok hX (own := [("row", 11)]) (by decide +kernel)) (j := 11) (by decide) (fun Y hY => (hY.is hX).nmW rfl (by decide +kernel)) ?_ (by intro _; rfl))) (by rfl)
    dsimp only [LcO]
    walk_at "go"
    refine ⟨2, rows.map rwD, rfl, rfl, by rw [List.length_map]; omega, fun j ds t => ds = ((rowsR rows).take j).map frs ∧ t = ⟨[some (.r 0), some (.d (.int c)), some (.d (.int m)), some (.d (bls free)), some (.r 2), some (.d (frs (ys ++ [1]))), none, none, none, none, none, none], [.nd .lst (cds3.map .d), .gone, .nd .lst ((rows.map rwD).map .d), .gone], 1⟩, ⟨by rw [List.take_zero]; rfl, rfl⟩, fun i acc t ⟨_, e⟩ => by subst e; exact ⟨rfl, rfl, rfl⟩, ?_, ?_⟩
    · rintro j dv acc t hv hal ⟨rfl, rfl⟩ Y hY
      rw [List.getElem?_map] at hv
      cases ex : rows[j]? with
      | none => rw [ex] at hv; cases hv
      | some q =>
        rw [ex] at hv
        cases hv
        have hg : (rowsR rows)[j]? = some q.r := by rw [List.getElem?_map, ex]; rfl
        have hYX := hY.is hX; have bY := hYX.bx; have r11Y := hYX.nmR (i := 11) (x := "row") rfl (by first | exact Or.inl (by decide +kernel) | exact Or.inr (Or.inl (by decide +kernel)) | exact Or.inr (Or.inr (by decide +kernel)))
        walk_at "go"
        refine ⟨_, ⟨[some (.r 0), some (.d (.int c)), some (.d (.int m)), some (.d (bls free)), some (.r 2), some (.d (frs (ys ++ [1]))), none, none, none, none, none, none], [.nd .lst (cds3.map .d), .gone, .nd .lst ((rows.map rwD).map .d), .gone], 1⟩, rfl, rfl, ?_, rfl⟩
        rw [← take_snoc hg, List.map_append]; rfl
    rintro ds t hdl ⟨rfl, rfl⟩
    rw [List.length_map, show rows.length = (rowsR rows).length from (List.length_map _).symm, List.take_length]
    refine ⟨⟨[some (.r 0), some (.d (.int c)), some (.d (.int m)), some (.d (bls free)), some (.r 2), some (.d (frs (ys ++ [1]))), none, none, none, none, none, none], [.nd .lst (cds3.map .d), .gone, .nd .lst ((rows.map rwD).map .d), .gone], 1⟩, .lst, (rowsR rows).map frs, rfl, rfl, Nat.le_refl _, tidy_4 _ _ _ rfl, ?_⟩
    refine ja_cons (je_sliceL ?_) (by rfl)
    walk_at "go"
    rw [cut_init]
    walk_at "go"
    have hRl : (rowsR rows).length = rows.length := List.length_map _
    have hRc : ∀ r ∈ rowsR rows, r.length = c := fun r h => by
      obtain ⟨q, hq, rfl⟩ := List.mem_map.mp h
      exact (hR q hq).1.l
    have hR21 : ∀ r ∈ rowsR rows, ∀ a ∈ r, QB 21 a := fun r h => by
      obtain ⟨q, hq, rfl⟩ := List.mem_map.mp h
      exact (hR q hq).2
    refine ap_comb (c := c) ⟨by omega, by omega, fun r hr => ⟨hRc r hr, fun a ha => (hR21 r hr a ha).mono (by decide)⟩⟩ (by omega) (fun a ha => (hyq a ha).mono (by decide)) ?_
    rw [hRl]
    have Ol := comb_len (R := rowsR rows) (fs := ys) (c := c) (by omega) hRc rows.length (by omega)
    have Oq := comb_QBk (R := rowsR rows) (fs := ys) (c := c) (k := 21) (l := 21) (by omega) hR21 hyq rows.length (by omega)
    walk_at "st"; walk_at "st"
    refine jss_set w7 (je_own (jn_lst ?_)) (by rfl)
    walk_at "st"
    refine ⟨by decide, rfl, ?_⟩
    refine jss_for bx (fun i s => ∃ (cds : List D) (ls : List Rat) (o8 o9 : Option D), PoolD cds ∧ ls.length = i ∧ (∀ a ∈ ls, QB 230 a) ∧ (∀ (j : Nat) f o a, free[j]? = some f → (comb (rowsR rows) ys c rows.length)[j]? = some o → ls[j]? = some a → ∃ mm : Rat, a = mm - o ∧ 0 ≤ mm ∧ (f = true → mm = 0)) ∧ s = ⟨[some (.r 0), some (.d (.int c)), some (.d (.int m)), some (.d (bls free)), some (.r 2), some (.d (frs (ys ++ [1]))), some (.d (frs (comb (rowsR rows) ys c rows.length))), some (.r 4), o8.map .d, o9.map .d, none, none], [.nd .lst (cds.map .d), .gone, .nd .lst ((rows.map rwD).map .d), .gone, .nd .lst ((ls.map frQ).map .d)], 1⟩) (ji_range1 g_range ?_) (by intro _; rfl)
    walk_at "go"
    refine ⟨by omega, ⟨cds3, [], none, none, hp3, rfl, fun a h => (by cases h), fun j f o a _ _ h => by simp at h, rfl⟩, ?_, ?_⟩
    · rintro i v s' hi he ⟨cds, ls, o8, o9, hp, lsl, lsq, lsG, rfl⟩
      obtain rfl : v = _ := he
      have hi2 : i < c := by omega
      have e1 : free[i]? = some (free[i]'(by omega)) := List.getElem?_eq_getElem (by omega)
      have e3 : (comb (rowsR rows) ys c rows.length)[i]? = some ((comb (rowsR rows) ys c rows.length)[i]'(by omega)) := List.getElem?_eq_getElem (by omega)
      generalize free[i]'(by omega) = f at e1
      generalize (comb (rowsR rows) ys c rows.length)[i]'(by omega) = o at e3
      have qo := Oq o (List.mem_of_getElem? e3)
      have l1 : L2.atI ((free.map D.bl).map E.d) (i : Int) = some (.d (.bl f)) := L2.atI_nat (by rw [List.getElem?_map, List.getElem?_map, e1]; rfl)
      have l3 : L2.atI (((comb (rowsR rows) ys c rows.length).map frQ).map E.d) (i : Int) = some (.d (frQ o)) := L2.atI_nat (by rw [List.getElem?_map, List.getElem?_map, e3]; rfl)
      have zi : (0 : Int) + i = i := Int.zero_add _
      rw [zi]
      walk_at "st"
      refine jss_set w9 (JE.mono (Φ := fun e1 s1 => ∃ (cds5 : List D) (mm : Rat), e1 = .d (frQ mm) ∧ PoolD cds5 ∧ QB 4 mm ∧ 0 ≤ mm ∧ (f = true → mm = 0) ∧ s1 = ⟨[some (.r 0), some (.d (.int c)), some (.d (.int m)), some (.d (bls free)), some (.r 2), some (.d (frs (ys ++ [1]))), some (.d (frs (comb (rowsR rows) ys c rows.length))), some (.r 4), some (.d (.int i)), o9.map .d, none, none], [.nd .lst (cds5.map .d), .gone, .nd .lst ((rows.map rwD).map .d), .gone, .nd .lst ((ls.map frQ).map .d)], 1⟩) ?_ ?_) (by rfl)
      · walk_at "go"
        refine jx_seq rfl (.inl rfl) l1 ?_
        walk_at "go"
        · rename_i hf
          refine ap_draw hp (lim_of (by decide) (by decide)) fun v cds9 v0 v1 hp9 => ?_
          refine rtΦ_dat ?_
          walk_at "go"
          · refine ap_pos hp9 fun p cds8 qp p0 hp8 => ?_
            refine rtΦ_dat ?_
            exact ⟨cds8, p, rfl, hp8, qp, Rat.le_of_lt p0, fun h => by simp [h] at hf, rfl⟩
          · exact ⟨cds9, 0, rfl, hp9, QB_0 (by decide), Rat.le_refl, fun _ => rfl, rfl⟩
        · exact ⟨cds, 0, rfl, hp, QB_0 (by decide), Rat.le_refl, fun _ => rfl, rfl⟩
      rintro e1 s1 ⟨cds5, mm, rfl, hp5, mq, m0, mz, rfl⟩
      refine jss_expr (je_append ?_) (by rfl)
      walk_at "go"
      refine ⟨4, _, rfl, rfl, ?_⟩
      walk_at "go"
      refine jx_seq rfl (.inl rfl) l3 ?_
      walk_at "go"
      refine ap_op 4 (1 + (21 + 21 + 1) * rows.length) mq qo (by decide) (by omega) (by omega) trivial ?_
      walk_at "go"
      refine ⟨by rw [List.length_map, List.length_map, sizeLine_eq]; omega, ?_⟩
      walk_at "go"
      refine ⟨cds5, ls ++ [mm - o], some (.int i), some (frQ mm), hp5, by rw [List.length_append, lsl]; rfl, fun z hz => ?_, fun j f' o' a h1 h2 h3 => ?_, ?_⟩
      · rcases List.mem_append.mp hz with hz | hz
        · exact lsq z hz
        · obtain rfl : z = _ := by simpa using hz
          exact (mq.sub qo).mono (by omega)
      · rcases app_get h3 with h3 | ⟨z1, z2⟩
        · exact lsG j f' o' a h1 h2 h3
        · rw [z1, lsl] at h1 h2
          rw [e1] at h1; rw [e3] at h2
          cases h1; cases h2
          exact ⟨mm, z2, m0, mz⟩
      · rw [List.map_append, List.map_append]; rfl
    rintro s' ⟨cds4, ls, o8, o9, hp4, lsl, lsq, lsG, rfl⟩
    have lsl : ls.length = c := by omega
    have hB : ∀ q ∈ rows, QB 21 q.b := fun q hq => (hR q hq).1.b
    have vq : QB 216 (valV rows ys) := (dot_QBn (n := 5) (by rw [List.length_map]; omega) (by rw [List.length_map]; omega) (fun b hb => by
      obtain ⟨q, hq, rfl⟩ := List.mem_map.mp hb
      exact hB q hq) hyq).mono (by decide)
    walk_at "go"
    rw [cut_init]
    walk_at "go"
    refine ap_val (by omega) (by omega) (fun q hq => (hB q hq).mono (by decide)) (fun a ha => (hyq a ha).mono (by decide)) ?_
    walk_at "go"
    refine ap_pos hp4 fun p cds5 qp p0 hp5 => ?_
    refine rtΦ_dat ?_
    walk_at "go"
    refine ap_op 216 4 vq qp (by decide) (by decide) (by decide) trivial ?_
    walk_at "go"
    show R_less [frQ 0, frQ (valV rows ys + p)] _
    refine ap_op 1 221 (QB_0 (by decide)) (vq.add qp) (by decide) (by decide) (by decide) trivial ?_
    refine rtX_P ?_ rfl
    refine rtΦ_dat ?_
    refine jss_frz' (k := 4) (kd := .lst) (ds := ls.map frQ) rfl (dsOf_map _) (fun C fs z => by cases z) (show 1 ≤ 4 by decide) (s' := ⟨[some (.r 0), some (.d (.int c)), some (.d (.int m)), some (.d (bls free)), some (.r 2), some (.d (frs (ys ++ [1]))), some (.d (frs (comb (rowsR rows) ys c rows.length))), some (.d (frs ls)), o8.map .d, o9.map .d, some (.d (frQ (0 - (valV rows ys + p)))), none], [.nd .lst (cds5.map .d), .gone, .nd .lst ((rows.map rwD).map .d), .gone, .gone], 1⟩) (by simp only [S.fz, S.set, S.put, S.push, setN, List.map_cons, List.map_nil, List.cons_append, List.nil_append, List.length_cons, List.length_nil, Option.map_some, Option.map_none, Cell.fz, E.fz, fz_map]; cases o8 <;> cases o9 <;> rfl) ?_
    refine jss_expr (je_append ?_) (by rfl)
    walk_at "go"
    refine ⟨2, _, rfl, rfl, ?_⟩
    walk_at "go"
    refine ap_pick hp5 (.inl rfl) (by simp) (by simp) fun d cds6 hd hp6 => ?_
    refine rtΦ_dat ?_
    obtain ⟨se, rfl, hse⟩ : ∃ se : Str, d = .str se ∧ (se = sJ ∨ se = sM) := by
      simp only [List.mem_cons, List.not_mem_nil, or_false] at hd
      rcases hd with rfl | rfl
      · exact ⟨_, rfl, .inl rfl⟩
      · exact ⟨_, rfl, .inr rfl⟩
    walk_at "go"
    refine ⟨by rw [List.length_map, List.length_map, sizeLine_eq]; omega, ?_⟩
    refine jss_frz' (k := 2) (kd := .lst) (ds := (rows ++ [(⟨ls, se, 0 - (valV rows ys + p)⟩ : Rw)]).map rwD) (es := ((rows ++ [(⟨ls, se, 0 - (valV rows ys + p)⟩ : Rw)]).map rwD).map .d) ?_ (dsOf_map _) (fun C fs z => by cases z) (show 1 ≤ 2 by decide) (s' := ⟨[some (.r 0), some (.d (.int c)), some (.d (.int m)), some (.d (bls free)), some (.d (rwsD (rows ++ [(⟨ls, se, 0 - (valV rows ys + p)⟩ : Rw)]))), some (.d (frs (ys ++ [1]))), some (.d (frs (comb (rowsR rows) ys c rows.length))), some (.d (frs ls)), o8.map .d, o9.map .d, some (.d (frQ (0 - (valV rows ys + p)))), none], [.nd .lst (cds6.map .d), .gone, .gone, .gone, .gone], 1⟩) (by simp only [S.fz, S.set, S.put, S.push, setN, List.map_cons, List.map_nil, List.cons_append, List.nil_append, List.length_cons, List.length_nil, Option.map_some, Option.map_none, Cell.fz, E.fz, fz_map]; cases o8 <;> cases o9 <;> rfl) ?_
    · rw [List.map_append, List.map_append]; rfl
    refine jss_ret (je_lst (ja_cons (je_popT ?_) (by rfl)))
    walk_at "go"
    refine ap_row hp6 (by omega) (by omega) fun gr cds7 grl grq hp7 => ?_
    refine rtΦ_new ?_
    refine ⟨⟨[some (.r 0), some (.d (.int c)), some (.d (.int m)), some (.d (bls free)), some (.d (rwsD (rows ++ [(⟨ls, se, 0 - (valV rows ys + p)⟩ : Rw)]))), some (.d (frs (ys ++ [1]))), some (.d (frs (comb (rowsR rows) ys c rows.length))), some (.d (frs ls)), o8.map .d, o9.map .d, some (.d (frQ (0 - (valV rows ys + p)))), none], [.nd .lst (cds7.map .d), .gone, .gone, .gone, .gone], 1⟩, .lst, gr.map frQ, rfl, rfl, Nat.le_refl _, tidy_5g _ _ (by cases o8 <;> cases o9 <;> rfl), ?_⟩
    walk_at "go"
    have okq : ∀ q ∈ rows ++ [(⟨ls, se, 0 - (valV rows ys + p)⟩ : Rw)], RwOk c 240 q ∧ ∀ a ∈ q.r, QB 240 a := fun q hq => by
      rcases List.mem_append.mp hq with hq | hq
      · have z := hR q hq
        exact ⟨⟨z.1.l, z.1.rq, z.1.b.mono (by decide), z.1.s⟩, fun a ha => (z.2 a ha).mono (by decide)⟩
      · obtain rfl : q = _ := by simpa using hq
        exact ⟨⟨lsl, fun a ha => (lsq a ha).mono (by decide), ((QB_0 (k := 1) (by decide)).sub (vq.add qp)).mono (by decide), hse⟩, fun a ha => (lsq a ha).mono (by decide)⟩
    refine ⟨.lst, _, _, rfl, dsOf_map _, k gr (rows ++ [(⟨ls, se, 0 - (valV rows ys + p)⟩ : Rw)]) free (ys ++ [1]) cds7 (by rw [List.length_append, rl]; rfl) (by rw [List.length_append, yl]; rfl) (by omega) fl (fun q hq => (okq q hq).1) (fun q hq => (okq q hq).2) (fun a ha => ?_) (fun a ha => (grq a ha).mono (by decide)) ?_ hp7⟩
    · rcases List.mem_append.mp ha with ha | ha
      · exact (hyq a ha).mono (by decide)
      · obtain rfl : a = _ := by simpa using ha
        exact QB_int (n := 1) (by show (_ : Nat) < _; decide) (by decide)
    · refine none_ok (c := c) (fun q hq => (hR q hq).1.l) fl (by omega) (by omega) lsl hyf p0 rfl ?_
      intro i f o a h1 h2 h3
      exact lsG i f o a h1 h2 h3
end
theorem get_of {α : Type} {l : List α} {i : Nat} (h : i < l.length) : ∃ a, l[i]? = some a := ⟨_, List.getElem?_eq_getElem h⟩
theorem div_mul_self {a b : Rat} (h : b ≠ 0) : a / b * b = a := by rw [Rat.div_mul_cancel h]
theorem QB_div {k l : Nat} {x y : Rat} (h1 : QB k x) (h2 : QB l y) (h3 : 0 < y) : QB (k + l) (x / y) := by
  rw [← q_over]
  have hy : 0 < y.num := rnum_pos.mp h3
  exact QB.div (h1.n.mul h2.db) (h1.db.mul h2.n) (Int.mul_pos (den_pos' x) hy)
def R_mend : RC1 := fun kd cds ds post => kd = .lst ∧ PoolD cds ∧ ∃ (c m : Nat), ds = [.int c, .int m] ∧ 0 < c ∧ c ≤ 4 ∧ 0 < m ∧ m ≤ 5 ∧ ∀ (goal : List Rat) (rows : List Rw) (free : List Bool) (x r : List Rat) cds', rows.length = m → x.length = c → r.length = c → goal.length = c → free.length = c → (∀ q ∈ rows, RwOk c 990 q) → (∀ q ∈ rows, ∀ a ∈ q.r, QB 240 a) → (∀ a ∈ x, QB 39 a) → (∀ a ∈ r, QB 39 a) → (∀ a ∈ goal, QB 240 a) → endV goal rows free x r = true → PoolD cds' → post (.dat (mdD goal rows free (frs x) r)) .lst cds'
theorem ap_mend {cds : List D} {c m : Nat} {post : Rt → Kd → List D → Prop} (hp : PoolD cds) (h1 : 0 < c) (h2 : c ≤ 4) (h3 : 0 < m) (h4 : m ≤ 5) (h : ∀ (goal : List Rat) (rows : List Rw) (free : List Bool) (x r : List Rat) cds', rows.length = m → x.length = c → r.length = c → goal.length = c → free.length = c → (∀ q ∈ rows, RwOk c 990 q) → (∀ q ∈ rows, ∀ a ∈ q.r, QB 240 a) → (∀ a ∈ x, QB 39 a) → (∀ a ∈ r, QB 39 a) → (∀ a ∈ goal, QB 240 a) → endV goal rows free x r = true → PoolD cds' → post (.dat (mdD goal rows free (frs x) r)) .lst cds') : R_mend .lst cds [.int c, .int m] post := ⟨rfl, hp, c, m, rfl, h1, h2, h3, h4, h⟩
theorem mo_mend : MonoC R_mend := fun kd cds ds p q m ⟨a, b, c, d, e, f, g, i, j, h⟩ => ⟨a, b, c, d, e, f, g, i, j, fun u1 u2 u3 u4 u5 u6 h1 h2 h3 h4 h5 h6 h7 h8 h9 h10 h11 h12 => m _ _ _ (h u1 u2 u3 u4 u5 u6 h1 h2 h3 h4 h5 h6 h7 h8 h9 h10 h11 h12)⟩
section
variable {P : Program} {w : World} {K : PySem.W.Frag} {mg : Str → Option Value} {base : Heap}
theorem ok_law_made_endless {f : Addr} {fd : FuncData} (C : Bs2 mg) (c_law_row : CaC P w K mg base "_law_row" 5 R_row) (c_law_draw : CaC P w K mg base "_law_draw" 3 R_draw) (c_law_pick : CaC P w K mg base "_law_pick" 4 R_pick) (c_law_fraction : CaC P w K mg base "_law_fraction" 4 R_fraction) (c_law_positive : CaC P w K mg base "_law_positive" 4 R_pos) (c_law_sub : CaP P w K mg base "_law_sub" 3 R_less) (c_law_add : CaP P w K mg base "_law_add" 3 R_add) (c_law_div : CaP P w K mg base "_law_div" 3 R_over) (c_law_dot : CaP P w K mg base "_law_dot" 4 R_dot) (Fu : Fun K "_law_made_endless" "_law_made_endless" s_law_made_endless f fd) : FnOk P w K mg base CX0 6 f fd ["pool", "count", "many"] (spC K R_mend) := by
  refine fn_C Fu sc_law_made_endless (fun kd cds ds post h => ?_) fun X F kd cds ds post hX hfn hH h => ?_
  · obtain ⟨_, _, _, _, rfl, _⟩ := h
    rfl
  · obtain ⟨rfl, hp, c, m, rfl, hc0, hc4, hm0, hm5, k⟩ := h
    have bx := hX.bx
    have r0 := hX.nmR (i := 0) (x := "pool") rfl (by first | exact Or.inl (by decide +kernel) | exact Or.inr (Or.inl (by decide +kernel))); have w0 := hX.nmC (i := 0) (x := "pool") rfl (by decide +kernel) (hfn _); have r1 := hX.nmR (i := 1) (x := "count") rfl (by first | exact Or.inl (by decide +kernel) | exact Or.inr (Or.inl (by decide +kernel))); have w1 := hX.nmW (i := 1) (x := "count") rfl (by decide +kernel); have r2 := hX.nmR (i := 2) (x := "many") rfl (by first | exact Or.inl (by decide +kernel) | exact Or.inr (Or.inl (by decide +kernel))); have w2 := hX.nmW (i := 2) (x := "many") rfl (by decide +kernel); have r3 := hX.nmR (i := 3) (x := "free") rfl (by first | exact Or.inl (by decide +kernel) | exact Or.inr (Or.inl (by decide +kernel))); have w3 := hX.nmC (i := 3) (x := "free") rfl (by decide +kernel) (hfn _); have r4 := hX.nmR (i := 4) (x := "x") rfl (by first | exact Or.inl (by decide +kernel) | exact Or.inr (Or.inl (by decide +kernel))); have w4 := hX.nmW (i := 4) (x := "x") rfl (by decide +kernel); have r5 := hX.nmR (i := 5) (x := "r") rfl (by first | exact Or.inl (by decide +kernel) | exact Or.inr (Or.inl (by decide +kernel))); have w5 := hX.nmW (i := 5) (x := "r") rfl (by decide +kernel); have r6 := hX.nmR (i := 6) (x := "place") rfl (by first | exact Or.inl (by decide +kernel) | exact Or.inr (Or.inl (by decide +kernel))); have w6 := hX.nmW (i := 6) (x := "place") rfl (by decide +kernel); have r7 := hX.nmR (i := 7) (x := "rows") rfl (by first | exact Or.inl (by decide +kernel) | exact Or.inr (Or.inl (by decide +kernel))); have w7 := hX.nmW (i := 7) (x := "rows") rfl (by decide +kernel); have r8 := hX.nmR (i := 8) (x := "k") rfl (by first | exact Or.inl (by decide +kernel) | exact Or.inr (Or.inl (by decide +kernel))); have w8 := hX.nmW (i := 8) (x := "k") rfl (by decide +kernel); have r9 := hX.nmR (i := 9) (x := "row") rfl (by first | exact Or.inl (by decide +kernel) | exact Or.inr (Or.inl (by decide +kernel))); have w9 := hX.nmW (i := 9) (x := "row") rfl (by decide +kernel); have r10 := hX.nmR (i := 10) (x := "sense") rfl (by first | exact Or.inl (by decide +kernel) | exact Or.inr (Or.inl (by decide +kernel))); have w10 := hX.nmW (i := 10) (x := "sense") rfl (by decide +kernel); have r11 := hX.nmR (i := 11) (x := "drop") rfl (by first | exact Or.inl (by decide +kernel) | exact Or.inr (Or.inl (by decide +kernel))); have w11 := hX.nmW (i := 11) (x := "drop") rfl (by decide +kernel); have r12 := hX.nmR (i := 12) (x := "room") rfl (by first | exact Or.inl (by decide +kernel) | exact Or.inr (Or.inl (by decide +kernel))); have w12 := hX.nmW (i := 12) (x := "room") rfl (by decide +kernel); have r13 := hX.nmR (i := 13) (x := "goal") rfl (by first | exact Or.inl (by decide +kernel) | exact Or.inr (Or.inl (by decide +kernel))); have w13 := hX.nmW (i := 13) (x := "goal") rfl (by decide +kernel); have g_range := hX.glb (x := "range") (by decide +kernel) C.b_range; have d_law_draw := c_law_draw.at hX (by decide +kernel); have d_law_positive := c_law_positive.at hX (by decide +kernel); have d_law_row := c_law_row.at hX (by decide +kernel); have d_law_pick := c_law_pick.at hX (by decide +kernel); have d_law_sub := c_law_sub.at hX (by decide +kernel); have d_law_div := c_law_div.at hX (by decide +kernel); have d_law_add := c_law_add.at hX (by decide +kernel); have d_law_dot := c_law_dot.at hX (by decide +kernel)
    conv => (arg 3; whnf)
    refine jss_set w3 (je_lcI bx (blk_ok hX (own := [("k", 8)]) (by decide +kernel)) (j := 8) (by decide) (fun Y hY => (hY.is hX).nmW rfl (by decide +kernel)) (ji_range1 g_range ?_) (by intro _; rfl)) (by rw [env_eq hX.eS]; rfl)
    walk_at "go"
    refine ⟨by omega, by omega, fun j ds t => ∃ (cds : List D) (bs : List Bool), PoolD cds ∧ ds = bs.map D.bl ∧ t = ⟨[some (.r 0), some (.d (.int c)), some (.d (.int m)), none, none, none, none, none, none, none, none, none, none, none], [.nd .lst (cds.map .d)], 1⟩, ⟨cds, [], hp, rfl, rfl⟩, ?_, ?_⟩
    · rintro j e ds t hj he hdl ⟨cds, bs, hp, rfl, rfl⟩
      refine ⟨rfl, rfl, fun Y hY => ?_⟩
      have hYX := hY.is hX; have bY := hYX.bx; have e_law_draw := c_law_draw.at hYX (by decide +kernel); have r0Y := hYX.nmR (i := 0) (x := "pool") rfl (by first | exact Or.inl (by decide +kernel) | exact Or.inr (Or.inl (by decide +kernel)) | exact Or.inr (Or.inr (by decide +kernel)))
      walk_at "go"
      refine ap_draw hp (lim_of (by decide) (by decide)) fun v cds9 v0 v1 hp9 => ?_
      refine rtΦ_dat ?_
      walk_at "go"
      refine ⟨_, ⟨[some (.r 0), some (.d (.int c)), some (.d (.int m)), none, none, none, none, none, none, none, none, none, none, none], [.nd .lst (cds9.map .d)], 1⟩, rfl, rfl, rfl, rfl, cds9, bs ++ [decide (v = 0)], hp9, by simp, rfl⟩
    rintro ds t hdl ⟨cds1, free, hp1, rfl, rfl⟩
    have fl : free.length = c := by rw [List.length_map] at hdl; omega
    refine ⟨rfl, ?_⟩
    refine jss_frz' (k := 1) (kd := .lst) (ds := free.map D.bl) rfl (dsOf_map _) (fun C fs z => by cases z) (show 1 ≤ 1 by decide) (s' := ⟨[some (.r 0), some (.d (.int c)), some (.d (.int m)), some (.d (bls free)), none, none, none, none, none, none, none, none, none, none], [.nd .lst (cds1.map .d), .gone], 1⟩) (by simp only [S.fz, S.set, S.put, S.push, setN, List.map_cons, List.map_nil, List.cons_append, List.nil_append, List.length_cons, List.length_nil, Option.map_some, Option.map_none, Cell.fz, E.fz, fz_map]; rfl) ?_
    refine jss_cons (js_setLcI bx w4 (hX.loc (by decide +kernel)) (by rw [env_eq hX.eS]; rfl) (blk_ok hX (own := [("k", 8)]) (by decide +kernel)) (j := 8) (by decide) (fun Y hY => (hY.is hX).nmW rfl (by decide +kernel)) (ji_range1 g_range ?_) (by intro _; rfl))
    walk_at "go"
    refine ⟨by omega, by omega, fun j ds t => ∃ (cds : List D) (xs : List Rat), PoolD cds ∧ ds = xs.map frQ ∧ (∀ x ∈ xs, QB 21 x) ∧ (∀ (i : Nat) f a, free[i]? = some f → xs[i]? = some a → f = true ∨ 0 ≤ a) ∧ t = ⟨[some (.r 0), some (.d (.int c)), some (.d (.int m)), some (.d (bls free)), none, none, none, none, none, none, none, none, none, none], [.nd .lst (cds.map .d), .gone], 1⟩, ⟨cds1, [], hp1, rfl, fun x hx => (by cases hx), fun i f a _ h => by simp at h, rfl⟩, ?_, ?_⟩
    · rintro j e ds t hj he hdl ⟨cds, xs, hp, rfl, hxq, hxf, rfl⟩
      refine ⟨rfl, rfl, fun Y hY => ?_⟩
      obtain rfl : e = _ := he
      have hxl : xs.length = j := by rw [List.length_map] at hdl; exact hdl
      have hj2 : j < free.length := by omega
      have e1 : free[j]? = some free[j] := List.getElem?_eq_getElem hj2
      generalize free[j] = g at e1
      have l1 : L2.atI ((free.map D.bl).map E.d) (j : Int) = some (.d (.bl g)) := L2.atI_nat (by rw [List.getElem?_map, List.getElem?_map, e1]; rfl)
      have zi : (0 : Int) + j = j := Int.zero_add _
      rw [zi]
      have nx : ∀ a : Rat, (g = true ∨ 0 ≤ a) → ∀ (i : Nat) f b, free[i]? = some f → (xs ++ [a])[i]? = some b → f = true ∨ 0 ≤ b := fun a ha i f b h1 h2 => by
        rcases app_get h2 with h2 | ⟨z, rfl⟩
        · exact hxf i f b h1 h2
        · rw [z, hxl, e1] at h1
          cases h1
          exact ha
      have qn : ∀ a : Rat, QB 21 a → ∀ b ∈ xs ++ [a], QB 21 b := fun a ha b hb => by
        rcases List.mem_append.mp hb with hb | hb
        · exact hxq b hb
        · have : b = a := by simpa using hb
          rw [this]; exact ha
      have hYX := hY.is hX; have bY := hYX.bx; have r3Y := hYX.nmR (i := 3) (x := "free") rfl (by first | exact Or.inl (by decide +kernel) | exact Or.inr (Or.inl (by decide +kernel)) | exact Or.inr (Or.inr (by decide +kernel))); have r8Y := hYX.nmR (i := 8) (x := "k") rfl (by first | exact Or.inl (by decide +kernel) | exact Or.inr (Or.inl (by decide +kernel)) | exact Or.inr (Or.inr (by decide +kernel))); have e_law_fraction := c_law_fraction.at hYX (by decide +kernel); have r0Y := hYX.nmR (i := 0) (x := "pool") rfl (by first | exact Or.inl (by decide +kernel) | exact Or.inr (Or.inl (by decide +kernel)) | exact Or.inr (Or.inr (by decide +kernel))); have e_law_pick := c_law_pick.at hYX (by decide +kernel); have e_law_positive := c_law_positive.at hYX (by decide +kernel)
      walk_at "go"
      refine jx_seq rfl (.inl rfl) l1 ?_
      walk_at "go"
      · rename_i hb
        refine ap_fraction hp fun a cds9 qa hp9 => ?_
        refine rtΦ_dat ?_
        exact ⟨_, ⟨[some (.r 0), some (.d (.int c)), some (.d (.int m)), some (.d (bls free)), none, none, none, none, none, none, none, none, none, none], [.nd .lst (cds9.map .d), .gone], 1⟩, rfl, rfl, rfl, rfl, cds9, xs ++ [a], hp9, by simp, qn a qa, nx a (.inl hb), rfl⟩
      · rename_i hb
        refine ap_pos hp fun a cds9 qa a0 hp9 => ?_
        refine rtΦ_dat ?_
        walk_at "go"
        refine ap_pick hp9 (.inl rfl) (by simp) (by simp) fun d cds8 hd hp8 => ?_
        refine rtΦ_dat ?_
        obtain ⟨b, rfl, qb, b0⟩ : ∃ b : Rat, d = frQ b ∧ QB 21 b ∧ 0 ≤ b := by
          simp only [List.mem_cons, List.not_mem_nil, or_false] at hd
          rcases hd with rfl | rfl
          · exact ⟨0, frQ_0, QB_0 (by decide), Rat.le_refl⟩
          · exact ⟨a, rfl, qa.mono (by decide), Rat.le_of_lt a0⟩
        exact ⟨_, ⟨[some (.r 0), some (.d (.int c)), some (.d (.int m)), some (.d (bls free)), none, none, none, none, none, none, none, none, none, none], [.nd .lst (cds8.map .d), .gone], 1⟩, rfl, rfl, rfl, rfl, cds8, xs ++ [b], hp8, by simp, qn b qb, nx b (.inr b0), rfl⟩
    rintro ds t hdl ⟨cds2, x, hp2, rfl, hxq, hxf, rfl⟩
    have xl : x.length = c := by rw [List.length_map] at hdl; omega
    refine ⟨rfl, ?_⟩
    refine jss_frz' (k := 2) (kd := .lst) (ds := x.map frQ) rfl (dsOf_map _) (fun C fs z => by cases z) (show 1 ≤ 2 by decide) (s' := ⟨[some (.r 0), some (.d (.int c)), some (.d (.int m)), some (.d (bls free)), some (.d (frs x)), none, none, none, none, none, none, none, none, none], [.nd .lst (cds2.map .d), .gone, .gone], 1⟩) (by simp only [S.fz, S.set, S.put, S.push, setN, List.map_cons, List.map_nil, List.cons_append, List.nil_append, List.length_cons, List.length_nil, Option.map_some, Option.map_none, Cell.fz, E.fz, fz_map]; rfl) ?_
    refine jss_cons (js_setLcI bx w5 (hX.loc (by decide +kernel)) (by rw [env_eq hX.eS]; rfl) (blk_ok hX (own := [("k", 8)]) (by decide +kernel)) (j := 8) (by decide) (fun Y hY => (hY.is hX).nmW rfl (by decide +kernel)) (ji_range1 g_range ?_) (by intro _; rfl))
    walk_at "go"
    refine ⟨by omega, by omega, fun j ds t => ∃ (cds : List D) (xs : List Rat), PoolD cds ∧ ds = xs.map frQ ∧ (∀ x ∈ xs, QB 21 x) ∧ (∀ (i : Nat) f a, free[i]? = some f → xs[i]? = some a → f = true ∨ 0 ≤ a) ∧ t = ⟨[some (.r 0), some (.d (.int c)), some (.d (.int m)), some (.d (bls free)), some (.d (frs x)), none, none, none, none, none, none, none, none, none], [.nd .lst (cds.map .d), .gone, .gone], 1⟩, ⟨cds2, [], hp2, rfl, fun x hx => (by cases hx), fun i f a _ h => by simp at h, rfl⟩, ?_, ?_⟩
    · rintro j e ds t hj he hdl ⟨cds, xs, hp, rfl, hxq, hxf, rfl⟩
      refine ⟨rfl, rfl, fun Y hY => ?_⟩
      obtain rfl : e = _ := he
      have hxl : xs.length = j := by rw [List.length_map] at hdl; exact hdl
      have hj2 : j < free.length := by omega
      have e1 : free[j]? = some free[j] := List.getElem?_eq_getElem hj2
      generalize free[j] = g at e1
      have l1 : L2.atI ((free.map D.bl).map E.d) (j : Int) = some (.d (.bl g)) := L2.atI_nat (by rw [List.getElem?_map, List.getElem?_map, e1]; rfl)
      have zi : (0 : Int) + j = j := Int.zero_add _
      rw [zi]
      have nx : ∀ a : Rat, (g = true ∨ 0 ≤ a) → ∀ (i : Nat) f b, free[i]? = some f → (xs ++ [a])[i]? = some b → f = true ∨ 0 ≤ b := fun a ha i f b h1 h2 => by
        rcases app_get h2 with h2 | ⟨z, rfl⟩
        · exact hxf i f b h1 h2
        · rw [z, hxl, e1] at h1
          cases h1
          exact ha
      have qn : ∀ a : Rat, QB 21 a → ∀ b ∈ xs ++ [a], QB 21 b := fun a ha b hb => by
        rcases List.mem_append.mp hb with hb | hb
        · exact hxq b hb
        · have : b = a := by simpa using hb
          rw [this]; exact ha
      have hYX := hY.is hX; have bY := hYX.bx; have r3Y := hYX.nmR (i := 3) (x := "free") rfl (by first | exact Or.inl (by decide +kernel) | exact Or.inr (Or.inl (by decide +kernel)) | exact Or.inr (Or.inr (by decide +kernel))); have r8Y := hYX.nmR (i := 8) (x := "k") rfl (by first | exact Or.inl (by decide +kernel) | exact Or.inr (Or.inl (by decide +kernel)) | exact Or.inr (Or.inr (by decide +kernel))); have e_law_fraction := c_law_fraction.at hYX (by decide +kernel); have r0Y := hYX.nmR (i := 0) (x := "pool") rfl (by first | exact Or.inl (by decide +kernel) | exact Or.inr (Or.inl (by decide +kernel)) | exact Or.inr (Or.inr (by decide +kernel))); have e_law_pick := c_law_pick.at hYX (by decide +kernel); have e_law_positive := c_law_positive.at hYX (by decide +kernel)
      walk_at "go"
      refine jx_seq rfl (.inl rfl) l1 ?_
      walk_at "go"
      · rename_i hb
        refine ap_fraction hp fun a cds9 qa hp9 => ?_
        refine rtΦ_dat ?_
        exact ⟨_, ⟨[some (.r 0), some (.d (.int c)), some (.d (.int m)), some (.d (bls free)), some (.d (frs x)), none, none, none, none, none, none, none, none, none], [.nd .lst (cds9.map .d), .gone, .gone], 1⟩, rfl, rfl, rfl, rfl, cds9, xs ++ [a], hp9, by simp, qn a qa, nx a (.inl hb), rfl⟩
      · rename_i hb
        refine ap_pos hp fun a cds9 qa a0 hp9 => ?_
        refine rtΦ_dat ?_
        walk_at "go"
        refine ap_pick hp9 (.inl rfl) (by simp) (by simp) fun d cds8 hd hp8 => ?_
        refine rtΦ_dat ?_
        obtain ⟨b, rfl, qb, b0⟩ : ∃ b : Rat, d = frQ b ∧ QB 21 b ∧ 0 ≤ b := by
          simp only [List.mem_cons, List.not_mem_nil, or_false] at hd
          rcases hd with rfl | rfl
          · exact ⟨0, frQ_0, QB_0 (by decide), Rat.le_refl⟩
          · exact ⟨a, rfl, qa.mono (by decide), Rat.le_of_lt a0⟩
        exact ⟨_, ⟨[some (.r 0), some (.d (.int c)), some (.d (.int m)), some (.d (bls free)), some (.d (frs x)), none, none, none, none, none, none, none, none, none], [.nd .lst (cds8.map .d), .gone, .gone], 1⟩, rfl, rfl, rfl, rfl, cds8, xs ++ [b], hp8, by simp, qn b qb, nx b (.inr b0), rfl⟩
    rintro ds t hdl ⟨cds3, r0, hp3, rfl, hrq0, hrf0, rfl⟩
    have rl0 : r0.length = c := by rw [List.length_map] at hdl; omega
    refine ⟨rfl, ?_⟩
    walk_at "go"
    refine ap_draw hp3 (lim_of (by omega) (by omega)) fun pl cds4 pl0 pl1 hp4 => ?_
    obtain ⟨pn, rfl⟩ : ∃ pn : Nat, pl = pn := ⟨pl.toNat, by omega⟩
    refine rtΦ_dat ?_
    walk_at "go"
    refine ap_pos hp4 fun rp cds5 rpq rp0 hp5 => ?_
    refine rtΦ_dat ?_
    walk_at "go"
    refine .inl ⟨3, _, _, pn, rfl, rfl, rfl, ixN_natQ (by rw [List.length_map, List.length_map]; omega), ?_⟩
    have rl : (r0.set pn rp).length = c := by rw [List.length_set]; exact rl0
    have rq : ∀ a ∈ r0.set pn rp, QB 21 a := fun a ha => by
      rcases List.mem_or_eq_of_mem_set ha with ha | ha
      · exact hrq0 a ha
      · rw [ha]; exact rpq.mono (by decide)
    have rf : ∀ (i : Nat) f a, free[i]? = some f → (r0.set pn rp)[i]? = some a → f = true ∨ 0 ≤ a := fun i f a h1 h2 => by
      by_cases hi : i = pn
      · subst hi
        rw [List.getElem?_set_self (by omega)] at h2
        cases h2
        exact .inr (Rat.le_of_lt rp0)
      · rw [List.getElem?_set_ne (by omega)] at h2
        exact hrf0 i f a h1 h2
    have rg : (r0.set pn rp)[pn]? = some rp := List.getElem?_set_self (by omega)
    have er : ((r0.map frQ).map E.d).set pn (E.d (frQ rp)) = ((r0.set pn rp).map frQ).map E.d := by rw [List.map_set, List.map_set]
    rw [er]
    clear er hrq0 hrf0
    generalize r0.set pn rp = r at rl rq rf rg
    have lr : L2.atI ((r.map frQ).map E.d) (pn : Int) = some (.d (frQ rp)) := L2.atI_nat (by rw [List.getElem?_map, List.getElem?_map, rg]; rfl)
    refine jss_frz' (k := 3) (kd := .lst) (ds := r.map frQ) rfl (dsOf_map _) (fun C fs z => by cases z) (show 1 ≤ 3 by decide) (s' := ⟨[some (.r 0), some (.d (.int c)), some (.d (.int m)), some (.d (bls free)), some (.d (frs x)), some (.d (frs r)), some (.d (.int pn)), none, none, none, none, none, none, none], [.nd .lst (cds5.map .d), .gone, .gone, .gone], 1⟩) (by simp only [S.fz, S.set, S.put, S.push, setN, List.map_cons, List.map_nil, List.cons_append, List.nil_append, List.length_cons, List.length_nil, Option.map_some, Option.map_none, Cell.fz, E.fz, fz_map]; rfl) ?_
    refine jss_set w7 (je_own (jn_lst ?_)) (by rfl)
    walk_at "st"
    refine ⟨by decide, rfl, ?_⟩
    refine jss_for bx (fun i s => ∃ (cds : List D) (rows : List Rw) (o8 o9 o10 o11 o12 : Option D), PoolD cds ∧ rows.length = i ∧ (∀ q ∈ rows, RwOk c 990 q ∧ (∀ a ∈ q.r, QB 240 a) ∧ ((dots q.r x).sum ≤ q.b ∧ (q.s = sJ → (dots q.r x).sum = q.b) ∧ (dots q.r r).sum ≤ 0 ∧ (q.s = sJ → (dots q.r r).sum = 0))) ∧ s = ⟨[some (.r 0), some (.d (.int c)), some (.d (.int m)), some (.d (bls free)), some (.d (frs x)), some (.d (frs r)), some (.d (.int pn)), some (.r 4), o8.map .d, o9.map .d, o10.map .d, o11.map .d, o12.map .d, none], [.nd .lst (cds.map .d), .gone, .gone, .gone, .nd .lst ((rows.map rwD).map .d)], 1⟩) (ji_range1 g_range ?_) (by intro _; rfl)
    walk_at "go"
    refine ⟨by omega, ⟨cds5, [], none, none, none, none, none, hp5, rfl, fun q h => (by cases h), rfl⟩, ?_, ?_⟩
    · rintro i v s' hi he ⟨cds, rows, o8, o9, o10, o11, o12, hp, rwl, hR, rfl⟩
      obtain rfl : v = _ := he
      walk_at "go"
      refine ap_row hp (by omega) (by omega) fun q0 cds6 ql qq hp6 => ?_
      refine rtΦ_new ?_
      walk_at "go"
      refine ap_pick hp6 (.inl rfl) (by simp) (by simp) fun d cds7 hd hp7 => ?_
      refine rtΦ_dat ?_
      obtain ⟨se, rfl, hse⟩ : ∃ se : Str, d = .str se ∧ (se = sJ ∨ se = sM) := by
        simp only [List.mem_cons, List.not_mem_nil, or_false] at hd
        rcases hd with rfl | rfl
        · exact ⟨_, rfl, .inl rfl⟩
        · exact ⟨_, rfl, .inr rfl⟩
      refine jss_set w11 (JE.mono (Φ := fun e1 s1 => ∃ (cds8 : List D) (dr : Rat), e1 = .d (frQ dr) ∧ PoolD cds8 ∧ QB 4 dr ∧ 0 ≤ dr ∧ (se = sJ → dr = 0) ∧ s1 = ⟨[some (.r 0), some (.d (.int c)), some (.d (.int m)), some (.d (bls free)), some (.d (frs x)), some (.d (frs r)), some (.d (.int pn)), some (.r 4), some (.d (.int (0 + i))), some (.r 5), some (.d (.str se)), o11.map .d, o12.map .d, none], [.nd .lst (cds8.map .d), .gone, .gone, .gone, .nd .lst ((rows.map rwD).map .d), .nd .lst ((q0.map frQ).map .d)], 1⟩) ?_ ?_) (by rfl)
      · walk_at "go"
        · exact ⟨cds7, 0, rfl, hp7, QB_0 (by decide), Rat.le_refl, fun _ => rfl, rfl⟩
        · rename_i h1
          refine ap_draw hp7 (lim_of (by decide) (by decide)) fun u cds8 u0 u1 hp8 => ?_
          refine rtΦ_dat ?_
          walk_at "go"
          · exact ⟨cds8, 0, rfl, hp8, QB_0 (by decide), Rat.le_refl, fun _ => rfl, rfl⟩
          · refine ap_pos hp8 fun a cds9 qa a0 hp9 => ?_
            refine rtΦ_dat ?_
            exact ⟨cds9, a, rfl, hp9, qa, Rat.le_of_lt a0, fun h => absurd h h1, rfl⟩
      rintro e1 s1 ⟨cds8, dr, rfl, hp8, drq, dr0, drz, rfl⟩
      have dq : QB 173 (dots q0 r).sum := (dot_QBn (n := 4) (k := 21) (l := 21) (by omega) (show q0.length = r.length by omega) qq rq).mono (by decide)
      obtain ⟨p, hp0⟩ := get_of (show pn < q0.length by omega)
      have lp : L2.atI ((q0.map frQ).map E.d) (pn : Int) = some (.d (frQ p)) := L2.atI_nat (by rw [List.getElem?_map, List.getElem?_map, hp0]; rfl)
      have pq := qq p (List.mem_of_getElem? hp0)
      walk_at "go"
      refine jx_seq rfl (.inl rfl) lp ?_
      walk_at "go"
      refine ap_dot (by omega) (by omega) (fun a ha => (qq a ha).mono (by decide)) (fun a ha => (rq a ha).mono (by decide)) ?_
      walk_at "go"
      refine ap_op 173 4 dq drq (by decide) (by decide) (by decide) trivial ?_
      walk_at "go"
      refine jx_seq rfl (.inl rfl) lr ?_
      walk_at "go"
      have rne : rp ≠ 0 := fun z => by rw [z] at rp0; exact absurd rp0 (by decide)
      refine ap_op 178 4 (dq.add drq) rpq (by decide) (by decide) (by decide) rne ?_
      walk_at "go"
      have vq := QB_div (dq.add drq) rpq rp0
      refine ap_op 21 182 pq vq (by decide) (by decide) (by decide) trivial ?_
      walk_at "go"
      refine .inl ⟨5, _, _, pn, rfl, rfl, rfl, ixN_natQ (by rw [List.length_map, List.length_map]; omega), ?_⟩
      have er : ((q0.map frQ).map E.d).set pn (E.d (frQ (p - ((dots q0 r).sum + dr) / rp))) = ((q0.set pn (p - ((dots q0 r).sum + dr) / rp)).map frQ).map E.d := by rw [List.map_set, List.map_set]
      rw [er]
      have q1l : (q0.set pn (p - ((dots q0 r).sum + dr) / rp)).length = c := by rw [List.length_set]; omega
      have q1q : ∀ a ∈ q0.set pn (p - ((dots q0 r).sum + dr) / rp), QB 210 a := fun a ha => by
        rcases List.mem_or_eq_of_mem_set ha with ha | ha
        · exact (qq a ha).mono (by decide)
        · rw [ha]; exact (pq.sub vq).mono (by decide)
      have q1d : (dots (q0.set pn (p - ((dots q0 r).sum + dr) / rp)) r).sum = -dr := by
        rw [dots_set hp0 rg]
        have e : (p - ((dots q0 r).sum + dr) / rp - p) * rp = -(((dots q0 r).sum + dr) / rp * rp) := by grind
        rw [e, div_mul_self rne]; grind
      clear er
      generalize q0.set pn (p - ((dots q0 r).sum + dr) / rp) = q1 at q1l q1q q1d
      refine jss_set w12 (JE.mono (Φ := fun e1 s1 => ∃ (cds9 : List D) (rm : Rat), e1 = .d (frQ rm) ∧ PoolD cds9 ∧ QB 4 rm ∧ 0 ≤ rm ∧ (se = sJ → rm = 0) ∧ s1 = ⟨[some (.r 0), some (.d (.int c)), some (.d (.int m)), some (.d (bls free)), some (.d (frs x)), some (.d (frs r)), some (.d (.int pn)), some (.r 4), some (.d (.int (0 + i))), some (.r 5), some (.d (.str se)), some (.d (frQ dr)), o12.map .d, none], [.nd .lst (cds9.map .d), .gone, .gone, .gone, .nd .lst ((rows.map rwD).map .d), .nd .lst ((q1.map frQ).map .d)], 1⟩) ?_ ?_) (by rfl)
      · walk_at "go"
        · exact ⟨cds8, 0, rfl, hp8, QB_0 (by decide), Rat.le_refl, fun _ => rfl, rfl⟩
        · rename_i h1
          refine ap_pos hp8 fun a cds9 qa a0 hp9 => ?_
          refine rtΦ_dat ?_
          walk_at "go"
          refine ap_pick hp9 (.inl rfl) (by simp) (by simp) fun d cds10 hd hp10 => ?_
          refine rtΦ_dat ?_
          obtain ⟨b, rfl, qb, b0⟩ : ∃ b : Rat, d = frQ b ∧ QB 4 b ∧ 0 ≤ b := by
            simp only [List.mem_cons, List.not_mem_nil, or_false] at hd
            rcases hd with rfl | rfl
            · exact ⟨0, frQ_0, QB_0 (by decide), Rat.le_refl⟩
            · exact ⟨a, rfl, qa, Rat.le_of_lt a0⟩
          exact ⟨cds10, b, rfl, hp10, qb, b0, fun h => absurd h h1, rfl⟩
      rintro e1 s1 ⟨cds9, rm, rfl, hp9, rmq, rm0, rmz, rfl⟩
      refine jss_frz' (k := 5) (kd := .lst) (ds := q1.map frQ) rfl (dsOf_map _) (fun C fs z => by cases z) (show 1 ≤ 5 by decide) (s' := ⟨[some (.r 0), some (.d (.int c)), some (.d (.int m)), some (.d (bls free)), some (.d (frs x)), some (.d (frs r)), some (.d (.int pn)), some (.r 4), some (.d (.int (0 + i))), some (.d (frs q1)), some (.d (.str se)), some (.d (frQ dr)), some (.d (frQ rm)), none], [.nd .lst (cds9.map .d), .gone, .gone, .gone, .nd .lst ((rows.map rwD).map .d), .gone], 1⟩) (by simp only [S.fz, S.set, S.put, S.push, setN, List.map_cons, List.map_nil, List.cons_append, List.nil_append, List.length_cons, List.length_nil, Option.map_some, Option.map_none, Cell.fz, E.fz, fz_map]; rfl) ?_
      refine jss_expr (je_append ?_) (by rfl)
      walk_at "go"
      refine ⟨4, _, rfl, rfl, ?_⟩
      walk_at "go"
      refine ap_dot (by omega) (by omega) (fun a ha => (q1q a ha).mono (by decide)) (fun a ha => (hxq a ha).mono (by decide)) ?_
      walk_at "go"
      have d2q : QB 929 (dots q1 x).sum := (dot_QBn (n := 4) (k := 210) (l := 21) (by omega) (show q1.length = x.length by omega) q1q hxq).mono (by decide)
      refine ap_op 929 4 d2q rmq (by decide) (by decide) (by decide) trivial ?_
      walk_at "go"
      refine ⟨by rw [List.length_map, List.length_map, sizeLine_eq]; omega, ?_⟩
      refine jss_end (s' := ⟨[some (.r 0), some (.d (.int c)), some (.d (.int m)), some (.d (bls free)), some (.d (frs x)), some (.d (frs r)), some (.d (.int pn)), some (.r 4), some (.d (.int (0 + i))), some (.d (frs q1)), some (.d (.str se)), some (.d (frQ dr)), some (.d (frQ rm)), none], [.nd .lst (cds9.map .d), .gone, .gone, .gone, .nd .lst ((rows.map rwD).map .d ++ [.d (rwD ⟨q1, se, (dots q1 x).sum + rm⟩)])], 1⟩) ⟨fun i e h => h, rfl, ⟨[.gone], rfl⟩, rfl, by show 1 ≤ 5; decide⟩ rfl ?_ ?_
      · show ((cds9.map E.d).all (E.lt 5) && (true && (true && (true && (((rows.map rwD).map E.d ++ [E.d (rwD ⟨q1, se, (dots q1 x).sum + rm⟩)]).all (E.lt 5) && true))))) = true
        rw [lt_ds, List.all_append, lt_ds]; rfl
      refine ⟨cds9, rows ++ [⟨q1, se, (dots q1 x).sum + rm⟩], some (.int (0 + i)), some (frs q1), some (.str se), some (frQ dr), some (frQ rm), hp9, by rw [List.length_append, rwl]; rfl, fun q hq => ?_, by rw [List.map_append, List.map_append]; rfl⟩
      rcases List.mem_append.mp hq with hq | hq
      · exact hR q hq
      · obtain rfl : q = _ := by simpa using hq
        refine ⟨⟨q1l, fun a ha => (q1q a ha).mono (by decide), (d2q.add rmq).mono (by decide), hse⟩, fun a ha => (q1q a ha).mono (by decide), ?_, fun h => ?_, ?_, fun h => ?_⟩
        · show (dots q1 x).sum ≤ (dots q1 x).sum + rm
          grind
        · show (dots q1 x).sum = (dots q1 x).sum + rm
          rw [rmz h]; grind
        · show (dots q1 r).sum ≤ 0
          rw [q1d]; grind
        · show (dots q1 r).sum = 0
          rw [q1d, drz h]; grind
    · rintro s' ⟨cds, rows, o8, o9, o10, o11, o12, hp, rwl, hR, rfl⟩
      have rwl : rows.length = m := by omega
      walk_at "go"
      refine ap_row hp (by omega) (by omega) fun g0 cds6 gl gq hp6 => ?_
      refine rtΦ_new ?_
      obtain ⟨gp, hg0⟩ := get_of (show pn < g0.length by omega)
      have lg : L2.atI ((g0.map frQ).map E.d) (pn : Int) = some (.d (frQ gp)) := L2.atI_nat (by rw [List.getElem?_map, List.getElem?_map, hg0]; rfl)
      have dq : QB 173 (dots g0 r).sum := (dot_QBn (n := 4) (k := 21) (l := 21) (by omega) (show g0.length = r.length by omega) gq rq).mono (by decide)
      have gpq := gq gp (List.mem_of_getElem? hg0)
      walk_at "go"
      refine jx_seq rfl (.inl rfl) lg ?_
      walk_at "go"
      refine ap_pos hp6 fun p cds7 pq p0 hp7 => ?_
      refine rtΦ_dat ?_
      walk_at "go"
      refine ap_dot (by omega) (by omega) (fun a ha => (gq a ha).mono (by decide)) (fun a ha => (rq a ha).mono (by decide)) ?_
      walk_at "go"
      refine ap_op 4 173 pq dq (by decide) (by decide) (by decide) trivial ?_
      walk_at "go"
      refine jx_seq rfl (.inl rfl) lr ?_
      walk_at "go"
      have rne : rp ≠ 0 := fun z => by rw [z] at rp0; exact absurd rp0 (by decide)
      refine ap_op 178 4 (pq.sub dq) rpq (by decide) (by decide) (by decide) rne ?_
      walk_at "go"
      have vq := QB_div (pq.sub dq) rpq rp0
      refine ap_op 21 182 gpq vq (by decide) (by decide) (by decide) trivial ?_
      walk_at "go"
      refine .inl ⟨5, _, _, pn, rfl, rfl, rfl, ixN_natQ (by rw [List.length_map, List.length_map]; omega), ?_⟩
      have er : ((g0.map frQ).map E.d).set pn (E.d (frQ (gp + (p - (dots g0 r).sum) / rp))) = ((g0.set pn (gp + (p - (dots g0 r).sum) / rp)).map frQ).map E.d := by rw [List.map_set, List.map_set]
      rw [er]
      have g1l : (g0.set pn (gp + (p - (dots g0 r).sum) / rp)).length = c := by rw [List.length_set]; omega
      have g1q : ∀ a ∈ g0.set pn (gp + (p - (dots g0 r).sum) / rp), QB 210 a := fun a ha => by
        rcases List.mem_or_eq_of_mem_set ha with ha | ha
        · exact (gq a ha).mono (by decide)
        · rw [ha]; exact (gpq.add vq).mono (by decide)
      have g1d : (dots (g0.set pn (gp + (p - (dots g0 r).sum) / rp)) r).sum = p := by
        rw [dots_set hg0 rg]
        have e : (gp + (p - (dots g0 r).sum) / rp - gp) * rp = (p - (dots g0 r).sum) / rp * rp := by grind
        rw [e, div_mul_self rne]; grind
      clear er
      generalize g0.set pn (gp + (p - (dots g0 r).sum) / rp) = g1 at g1l g1q g1d
      refine jss_frz' (k := 4) (kd := .lst) (ds := rows.map rwD) rfl (dsOf_map _) (fun C fs z => by cases z) (show 1 ≤ 4 by decide) (s' := ⟨[some (.r 0), some (.d (.int c)), some (.d (.int m)), some (.d (bls free)), some (.d (frs x)), some (.d (frs r)), some (.d (.int pn)), some (.d (rwsD rows)), o8.map .d, o9.map .d, o10.map .d, o11.map .d, o12.map .d, some (.r 5)], [.nd .lst (cds7.map .d), .gone, .gone, .gone, .gone, .nd .lst ((g1.map frQ).map .d)], 1⟩) (by simp only [S.fz, S.set, S.put, S.push, setN, List.map_cons, List.map_nil, List.cons_append, List.nil_append, List.length_cons, List.length_nil, Option.map_some, Option.map_none, Cell.fz, E.fz, fz_map]; cases o8 <;> cases o9 <;> cases o10 <;> cases o11 <;> cases o12 <;> rfl) ?_
      refine jss_frz' (k := 5) (kd := .lst) (ds := g1.map frQ) rfl (dsOf_map _) (fun C fs z => by cases z) (show 1 ≤ 5 by decide) (s' := ⟨[some (.r 0), some (.d (.int c)), some (.d (.int m)), some (.d (bls free)), some (.d (frs x)), some (.d (frs r)), some (.d (.int pn)), some (.d (rwsD rows)), o8.map .d, o9.map .d, o10.map .d, o11.map .d, o12.map .d, some (.d (frs g1))], [.nd .lst (cds7.map .d), .gone, .gone, .gone, .gone, .gone], 1⟩) (by simp only [S.fz, S.set, S.put, S.push, setN, List.map_cons, List.map_nil, List.cons_append, List.nil_append, List.length_cons, List.length_nil, Option.map_some, Option.map_none, Cell.fz, E.fz, fz_map]; cases o8 <;> cases o9 <;> cases o10 <;> cases o11 <;> cases o12 <;> rfl) ?_
      walk_at "go"
      refine ⟨.lst, _, _, rfl, dsOf_map _, k g1 rows free x r cds7 rwl xl rl g1l fl (fun q hq => (hR q hq).1) (fun q hq => (hR q hq).2.1) (fun a ha => (hxq a ha).mono (by decide)) (fun a ha => (rq a ha).mono (by decide)) (fun a ha => (g1q a ha).mono (by decide)) ?_ hp7⟩
      exact end_ok (by omega) (by omega) (fun q hq => (hR q hq).2.2) hxf rf (by rw [g1d]; exact p0)
end
local macro_rules | `(tactic| walk_at "je") => `(tactic| (with_reducible refine' je_sliceL ?_))
theorem cutD_len {ds : List D} {lo hi : Option Int} : (DL.cutD ds lo hi).length ≤ ds.length := by
  unfold DL.cutD
  rw [List.length_take, List.length_drop]; omega
theorem cutD_lo (ds : List D) (k : Nat) : DL.cutD ds none (some (k : Int)) = ds.take k := by
  unfold DL.cutD
  rw [HT.sIx_nat, HT.sIx_none, List.drop_zero, Nat.sub_zero, Nat.min_def]
  split
  · rfl
  · rw [List.take_of_length_le (Nat.le_refl _), List.take_of_length_le (by omega)]
theorem cutD_hi (ds : List D) (k : Nat) : DL.cutD ds (some ((k : Int) + 1)) none = ds.drop (k + 1) := by
  unfold DL.cutD
  rw [show ((k : Int) + 1) = ((k + 1 : Nat) : Int) from rfl, HT.sIx_nat, HT.sIx_none, Nat.min_def]
  split
  · rw [List.take_of_length_le (by rw [List.length_drop]; exact Nat.le_refl _)]
  · rw [List.drop_of_length_le (Nat.le_refl _), List.drop_of_length_le (by omega), List.take_nil]
theorem cut_set {ds : List D} {k : Nat} {d : D} (h : k < ds.length) : DL.cutD ds none (some (k : Int)) ++ [d] ++ DL.cutD ds (some ((k : Int) + 1)) none = ds.set k d := by
  rw [cutD_lo, cutD_hi, List.set_eq_take_append_cons_drop, if_pos h, List.append_assoc]; rfl
theorem cut_last (xs : List Rat) : DL.cutD (xs.map frQ) none (some (-1)) = (xs.dropLast).map frQ := by
  rcases List.eq_nil_or_concat xs with rfl | ⟨ys, a, rfl⟩
  · rfl
  · rw [List.concat_eq_append, cut_init, List.dropLast_concat]
abbrev foD : Option (List Rat) → D
  | none => .non
  | some x => frs x
theorem frs_set (xs : List Rat) (i : Nat) (a : Rat) : frs (xs.set i a) = .nd .lst ((xs.map frQ).set i (frQ a)) := by unfold frs; rw [List.map_set]
theorem rwsD_set (xs : List Rw) (i : Nat) (a : Rw) : rwsD (xs.set i a) = .nd .lst ((xs.map rwD).set i (rwD a)) := by unfold rwsD; rw [List.map_set]
theorem bls_set (xs : List Bool) (i : Nat) (a : Bool) : bls (xs.set i a) = .nd .lst ((xs.map D.bl).set i (D.bl a)) := by unfold bls; rw [List.map_set]
structure Mk (B c : Nat) (goal : List Rat) (rows : List Rw) (free : List Bool) (fo : Option (List Rat)) (y : List Rat) : Prop where
  r0 : 0 < rows.length
  rl : rows.length ≤ 6
  c0 : 0 < c
  cl : c ≤ 4
  fl : free.length = c
  rw : ∀ q ∈ rows, RwOk c B q
  rq : ∀ q ∈ rows, ∀ a ∈ q.r, QB 240 a
  gl : goal.length = c
  gq : ∀ g ∈ goal, QB 240 g
  xo : ∀ x, fo = some x → x.length = c ∧ ∀ a ∈ x, QB 39 a
  y0 : 0 < y.length
  yl : y.length ≤ 6
  yq : ∀ a ∈ y, QB 39 a
theorem Mk.md {B c : Nat} {goal : List Rat} {rows : List Rw} {free : List Bool} {fo : Option (List Rat)} {y : List Rat} (h : Mk B c goal rows free fo y) : Md (B + 10) c goal rows free (fo.getD []) y := by
  have hcl := h.cl
  refine ⟨⟨h.rl, by omega, h.fl, fun q hq => let z := h.rw q hq; ⟨z.l, z.rq, z.b.mono (by omega), z.s⟩⟩, h.gl, fun g hg => (h.gq g hg).mono (by decide), ?_, ?_, by have := h.yl; omega, fun a ha => (h.yq a ha).mono (by decide)⟩
  · cases fo with
    | none => exact Nat.zero_le _
    | some x => have := (h.xo x rfl).1; show x.length ≤ 6; omega
  · cases fo with
    | none => intro a ha; cases ha
    | some x => exact fun a ha => ((h.xo x rfl).2 a ha).mono (by decide)
theorem all_set {α : Type} {p : α → Prop} {l : List α} {i : Nat} {a : α} (h : ∀ w ∈ l, p w) (ha : p a) : ∀ w ∈ l.set i a, p w := fun w hw => by
  rcases List.mem_or_eq_of_mem_set hw with hw | hw
  · exact h w hw
  · rw [hw]; exact ha
theorem Md.setRow {B c i : Nat} {goal : List Rat} {rows : List Rw} {free : List Bool} {x y : List Rat} {q : Rw} (h : Md B c goal rows free x y) (hq : RwOk c B q) : Md B c goal (rows.set i q) free x y :=
  { h with pr := { h.pr with rl := (by rw [List.length_set]; exact h.pr.rl), rw := all_set h.pr.rw hq } }
theorem Md.setGoal {B c i : Nat} {goal : List Rat} {rows : List Rw} {free : List Bool} {x y : List Rat} {g : Rat} (h : Md B c goal rows free x y) (hq : QB 250 g) : Md B c (goal.set i g) rows free x y :=
  { h with gl := (by rw [List.length_set]; exact h.gl), gq := all_set h.gq hq }
theorem Md.free' {B c : Nat} {goal : List Rat} {rows : List Rw} {free fr : List Bool} {x y : List Rat} (h : Md B c goal rows free x y) (hf : fr.length = c) : Md B c goal rows fr x y :=
  { h with pr := { h.pr with fl := hf } }
theorem Md.x' {B c : Nat} {goal : List Rat} {rows : List Rw} {free : List Bool} {x x' y : List Rat} (h : Md B c goal rows free x y) (hl : x'.length ≤ 6) (hf : ∀ a ∈ x', QB 45 a) : Md B c goal rows free x' y := { h with xl := hl, xq := hf }
theorem Md.y' {B c : Nat} {goal : List Rat} {rows : List Rw} {free : List Bool} {x y y' : List Rat} (h : Md B c goal rows free x y) (hl : y'.length ≤ 8) (hf : ∀ a ∈ y', QB 45 a) : Md B c goal rows free x y' := { h with yl := hl, yq := hf }
def R_bent : RC1 := fun kd cds ds post => kd = .lst ∧ PoolD cds ∧ ∃ (goal : List Rat) (rows : List Rw) (free : List Bool) (fo : Option (List Rat)) (y : List Rat) (B c : Nat), ds = [mdD goal rows free (foD fo) y] ∧ (0 < B ∧ B ≤ 1000) ∧ Mk B c goal rows free fo y ∧ ∀ (goal' : List Rat) (rows' : List Rw) (free' : List Bool) (fo' : Option (List Rat)) (y' : List Rat) cds', Md (B + 10) c goal' rows' free' (fo'.getD []) y' → fo'.isSome = fo.isSome → PoolD cds' → post (.dat (mdD goal' rows' free' (foD fo') y')) .lst cds'
theorem ap_bent {cds : List D} {goal : List Rat} {rows : List Rw} {free : List Bool} {fo : Option (List Rat)} {y : List Rat} {B c : Nat} {post : Rt → Kd → List D → Prop} (hp : PoolD cds) (hB : 0 < B ∧ B ≤ 1000) (hM : Mk B c goal rows free fo y) (h : ∀ (goal' : List Rat) (rows' : List Rw) (free' : List Bool) (fo' : Option (List Rat)) (y' : List Rat) cds', Md (B + 10) c goal' rows' free' (fo'.getD []) y' → fo'.isSome = fo.isSome → PoolD cds' → post (.dat (mdD goal' rows' free' (foD fo') y')) .lst cds') : R_bent .lst cds [mdD goal rows free (foD fo) y] post := ⟨rfl, hp, goal, rows, free, fo, y, B, c, rfl, hB, hM, h⟩
theorem mo_bent : MonoC R_bent := fun kd cds ds p q m ⟨a, b, c, d, e, f, g, i, j, k, l, n, h⟩ => ⟨a, b, c, d, e, f, g, i, j, k, l, n, fun u1 u2 u3 u4 u5 u6 h1 h2 h3 => m _ _ _ (h u1 u2 u3 u4 u5 u6 h1 h2 h3)⟩
section
variable {P : Program} {w : World} {K : PySem.W.Frag} {mg : Str → Option Value} {base : Heap}
theorem ok_law_bent {f : Addr} {fd : FuncData} (C : Bs2 mg) (c_law_draw : CaC P w K mg base "_law_draw" 3 R_draw) (c_law_pick : CaC P w K mg base "_law_pick" 4 R_pick) (c_law_mul : CaP P w K mg base "_law_mul" 3 R_mul) (c_law_add : CaP P w K mg base "_law_add" 3 R_add) (Fu : Fun K "_law_bent" "_law_bent" s_law_bent f fd) : FnOk P w K mg base CX0 5 f fd ["pool", "made"] (spC K R_bent) := by
  refine fn_C Fu sc_law_bent (fun kd cds ds post h => ?_) fun X F kd cds ds post hX hfn hH h => ?_
  · obtain ⟨_, _, _, _, _, _, _, _, _, rfl, _⟩ := h
    rfl
  · obtain ⟨rfl, hp, goal0, rows0, free0, fo0, y0, B, c, rfl, hB, hM, k⟩ := h
    have bx := hX.bx
    have r0 := hX.nmR (i := 0) (x := "pool") rfl (by first | exact Or.inl (by decide +kernel) | exact Or.inr (Or.inl (by decide +kernel))); have w0 := hX.nmW (i := 0) (x := "pool") rfl (by decide +kernel); have r1 := hX.nmR (i := 1) (x := "made") rfl (by first | exact Or.inl (by decide +kernel) | exact Or.inr (Or.inl (by decide +kernel))); have w1 := hX.nmW (i := 1) (x := "made") rfl (by decide +kernel); have r2 := hX.nmR (i := 2) (x := "goal") rfl (by first | exact Or.inl (by decide +kernel) | exact Or.inr (Or.inl (by decide +kernel))); have w2 := hX.nmW (i := 2) (x := "goal") rfl (by decide +kernel); have r3 := hX.nmR (i := 3) (x := "rows") rfl (by first | exact Or.inl (by decide +kernel) | exact Or.inr (Or.inl (by decide +kernel))); have w3 := hX.nmW (i := 3) (x := "rows") rfl (by decide +kernel); have r4 := hX.nmR (i := 4) (x := "free") rfl (by first | exact Or.inl (by decide +kernel) | exact Or.inr (Or.inl (by decide +kernel))); have w4 := hX.nmW (i := 4) (x := "free") rfl (by decide +kernel); have r5 := hX.nmR (i := 5) (x := "first") rfl (by first | exact Or.inl (by decide +kernel) | exact Or.inr (Or.inl (by decide +kernel))); have w5 := hX.nmW (i := 5) (x := "first") rfl (by decide +kernel); have r6 := hX.nmR (i := 6) (x := "second") rfl (by first | exact Or.inl (by decide +kernel) | exact Or.inr (Or.inl (by decide +kernel))); have w6 := hX.nmW (i := 6) (x := "second") rfl (by decide +kernel); have r7 := hX.nmR (i := 7) (x := "way") rfl (by first | exact Or.inl (by decide +kernel) | exact Or.inr (Or.inl (by decide +kernel))); have w7 := hX.nmW (i := 7) (x := "way") rfl (by decide +kernel); have r8 := hX.nmR (i := 8) (x := "change") rfl (by first | exact Or.inl (by decide +kernel) | exact Or.inr (Or.inl (by decide +kernel))); have w8 := hX.nmW (i := 8) (x := "change") rfl (by decide +kernel); have r9 := hX.nmR (i := 9) (x := "at") rfl (by first | exact Or.inl (by decide +kernel) | exact Or.inr (Or.inl (by decide +kernel))); have w9 := hX.nmW (i := 9) (x := "at") rfl (by decide +kernel); have r10 := hX.nmR (i := 10) (x := "k") rfl (by first | exact Or.inl (by decide +kernel) | exact Or.inr (Or.inl (by decide +kernel))); have w10 := hX.nmW (i := 10) (x := "k") rfl (by decide +kernel); have r11 := hX.nmR (i := 11) (x := "row") rfl (by first | exact Or.inl (by decide +kernel) | exact Or.inr (Or.inl (by decide +kernel))); have w11 := hX.nmW (i := 11) (x := "row") rfl (by decide +kernel); have r12 := hX.nmR (i := 12) (x := "sense") rfl (by first | exact Or.inl (by decide +kernel) | exact Or.inr (Or.inl (by decide +kernel))); have w12 := hX.nmW (i := 12) (x := "sense") rfl (by decide +kernel); have r13 := hX.nmR (i := 13) (x := "right") rfl (by first | exact Or.inl (by decide +kernel) | exact Or.inr (Or.inl (by decide +kernel))); have w13 := hX.nmW (i := 13) (x := "right") rfl (by decide +kernel); have r14 := hX.nmR (i := 14) (x := "place") rfl (by first | exact Or.inl (by decide +kernel) | exact Or.inr (Or.inl (by decide +kernel))); have w14 := hX.nmW (i := 14) (x := "place") rfl (by decide +kernel); have d_law_draw := c_law_draw.at hX (by decide +kernel); have d_law_pick := c_law_pick.at hX (by decide +kernel); have g_len := hX.glb (x := "len") (by decide +kernel) C.b_len; have d_law_add := c_law_add.at hX (by decide +kernel)
    conv => (arg 3; whnf)
    have lg : ((goal0.map frQ).map E.d).length = goal0.length := by rw [List.length_map, List.length_map]
    have lR : ((rows0.map rwD).map E.d).length = rows0.length := by rw [List.length_map, List.length_map]
    have ly : ((y0.map frQ).map E.d).length = y0.length := by rw [List.length_map, List.length_map]
    have h1 := hM.r0; have h2 := hM.rl; have h3 := hM.c0; have h4 := hM.cl; have h5 := hM.gl; have h6 := hM.fl; have h7 := hM.y0; have h8 := hM.yl
    have md := hM.md
    walk_at "go"
    refine jg_lst bx rfl rfl ?_
    walk_at "go"
    refine ap_draw hp (lim_of (by decide) (by decide)) fun wy cds1 wy0 wy1 hp1 => ?_
    refine rtΦ_dat ?_
    walk_at "go"
    refine ap_pick hp1 (.inl rfl) (by simp) (by simp) fun d cds2 hd hp2 => ?_
    refine rtΦ_dat ?_
    obtain ⟨ch, rfl, chq⟩ : ∃ ch : Rat, d = frQ ch ∧ QB 4 ch := by
      simp only [List.mem_cons, List.not_mem_nil, or_false] at hd
      rcases hd with rfl | rfl | rfl | rfl
      · exact ⟨1, rfl, ⟨(by show (_ : Nat) < _; decide), by decide⟩⟩
      · exact ⟨-1, rfl, ⟨(by show (_ : Nat) < _; decide), by decide⟩⟩
      · exact ⟨⟨1, 9, by decide, by decide⟩, rfl, ⟨(by show (_ : Nat) < _; decide), by decide⟩⟩
      · exact ⟨⟨-1, 9, by decide, by decide⟩, rfl, ⟨(by show (_ : Nat) < _; decide), by decide⟩⟩
    walk_at "go"
    refine ap_draw hp2 (lim_of (by omega) (by omega)) fun at_ cds3 at0 at1 hp3 => ?_
    obtain ⟨an, rfl⟩ : ∃ an : Nat, at_ = an := ⟨at_.toNat, by omega⟩
    refine rtΦ_dat ?_
    walk_at "go"
    refine ap_draw hp3 (lim_of (by omega) (by omega)) fun k_ cds4 k0 k1 hp4 => ?_
    obtain ⟨kn, rfl⟩ : ∃ kn : Nat, k_ = kn := ⟨k_.toNat, by omega⟩
    refine rtΦ_dat ?_
    have an1 : an < rows0.length := by omega
    have kn1 : kn < c := by omega
    obtain ⟨q, eq⟩ := get_of an1
    obtain ⟨g, eg⟩ := get_of (show kn < goal0.length by omega)
    obtain ⟨fr, ef⟩ := get_of (show kn < free0.length by omega)
    have qok := hM.rw q (List.mem_of_getElem? eq)
    obtain ⟨rk, ek⟩ := get_of (show kn < q.r.length by have := qok.l; omega)
    have lq : L2.atI ((rows0.map rwD).map E.d) (an : Int) = some (.d (rwD q)) := L2.atI_nat (by rw [List.getElem?_map, List.getElem?_map, eq]; rfl)
    have lgk : L2.atI ((goal0.map frQ).map E.d) (kn : Int) = some (.d (frQ g)) := L2.atI_nat (by rw [List.getElem?_map, List.getElem?_map, eg]; rfl)
    have lf : L2.atI ((free0.map D.bl).map E.d) (kn : Int) = some (.d (.bl fr)) := L2.atI_nat (by rw [List.getElem?_map, List.getElem?_map, ef]; rfl)
    have lk : L2.atI ((q.r.map frQ).map E.d) (kn : Int) = some (.d (frQ rk)) := L2.atI_nat (by rw [List.getElem?_map, List.getElem?_map, ek]; rfl)
    have s1 : ∀ lo hi, (DL.cutD (rows0.map rwD) lo hi).length ≤ 6 := fun lo hi => Nat.le_trans cutD_len (by rw [List.length_map]; omega)
    have s2 : ∀ lo hi, (DL.cutD (goal0.map frQ) lo hi).length ≤ 6 := fun lo hi => Nat.le_trans cutD_len (by rw [List.length_map]; omega)
    have s3 : ∀ lo hi, (DL.cutD (free0.map D.bl) lo hi).length ≤ 6 := fun lo hi => Nat.le_trans cutD_len (by rw [List.length_map]; omega)
    have s4 : ∀ lo hi, (DL.cutD (y0.map frQ) lo hi).length ≤ 6 := fun lo hi => Nat.le_trans cutD_len (by rw [List.length_map]; omega)
    have s5 : ∀ lo hi, (DL.cutD (q.r.map frQ) lo hi).length ≤ 6 := fun lo hi => Nat.le_trans cutD_len (by rw [List.length_map, qok.l]; omega)
    show JSs _ _ _ ⟨[some (.r 0), some (.d (mdD goal0 rows0 free0 (foD fo0) y0)), some (.d (frs goal0)), some (.d (rwsD rows0)), some (.d (bls free0)), some (.d (foD fo0)), some (.d (frs y0)), some (.d (.int wy)), some (.d (frQ ch)), some (.d (.int an)), some (.d (.int kn)), none, none, none, none, none], [.nd .lst (cds4.map .d)], 1⟩ _
    refine jss_ifM (fun s1 => ∃ (cds : List D) (goal : List Rat) (rows : List Rw) (free : List Bool) (fo : Option (List Rat)) (y : List Rat) (o11 o12 o13 o14 : Option D), PoolD cds ∧ Md (B + 10) c goal rows free (fo.getD []) y ∧ fo.isSome = fo0.isSome ∧ s1 = ⟨[some (.r 0), some (.d (mdD goal0 rows0 free0 (foD fo0) y0)), some (.d (frs goal)), some (.d (rwsD rows)), some (.d (bls free)), some (.d (foD fo)), some (.d (frs y)), some (.d (.int wy)), some (.d (frQ ch)), some (.d (.int an)), some (.d (.int kn)), o11.map .d, o12.map .d, o13.map .d, o14.map .d, none], [.nd .lst (cds.map .d)], 1⟩) ?_ ?_
    · walk_at "go"
      · refine jx_seq rfl (.inl rfl) lq ?_
        walk_at "go"
        refine ap_op B 4 qok.b chq hB.1 (by decide) (by omega) trivial ?_
        walk_at "go"
        refine jr_cat rfl rfl (by rw [sizeLine_eq]; simp only [List.length_append, List.length_cons, List.length_nil]; have z := s1 none (some (an : Int)); have z2 := s1 (some ((an : Int) + 1)) none; omega) ?_
        walk_at "go"
        refine jr_cat rfl rfl (by rw [sizeLine_eq]; simp only [List.length_append, List.length_cons, List.length_nil]; have z := s1 none (some (an : Int)); have z2 := s1 (some ((an : Int) + 1)) none; omega) ?_
        rw [cut_set (by rw [List.length_map]; exact an1)]
        walk_at "go"
        exact ⟨cds4, goal0, rows0.set an ⟨q.r, q.s, q.b + ch⟩, free0, fo0, y0, some (frs q.r), some (.str q.s), some (frQ q.b), none, hp4, md.setRow ⟨qok.l, qok.rq, (qok.b.add chq).mono (by omega), qok.s⟩, rfl, by rw [rwsD_set]; rfl⟩
      · refine jx_seq rfl (.inl rfl) lgk ?_
        walk_at "go"
        refine ap_op 240 4 (hM.gq _ (List.mem_of_getElem? eg)) chq (by decide) (by decide) (by decide) trivial ?_
        walk_at "go"
        refine jr_cat rfl rfl (by rw [sizeLine_eq]; simp only [List.length_append, List.length_cons, List.length_nil]; have z := s2 none (some (kn : Int)); have z2 := s2 (some ((kn : Int) + 1)) none; omega) ?_
        walk_at "go"
        refine jr_cat rfl rfl (by rw [sizeLine_eq]; simp only [List.length_append, List.length_cons, List.length_nil]; have z := s2 none (some (kn : Int)); have z2 := s2 (some ((kn : Int) + 1)) none; omega) ?_
        rw [cut_set (by rw [List.length_map]; omega)]
        walk_at "go"
        exact ⟨cds4, goal0.set kn (g + ch), rows0, free0, fo0, y0, none, none, none, none, hp4, md.setGoal (((hM.gq _ (List.mem_of_getElem? eg)).add chq).mono (by decide)), rfl, by rw [frs_set]; rfl⟩
      · refine jx_seq rfl (.inl rfl) lq ?_
        walk_at "go"
        refine jx_seq rfl (.inl rfl) lk ?_
        walk_at "go"
        have rkq := hM.rq q (List.mem_of_getElem? eq) rk (List.mem_of_getElem? ek)
        refine ap_op 240 4 rkq chq (by decide) (by decide) (by decide) trivial ?_
        walk_at "go"
        refine jr_cat rfl rfl (by rw [sizeLine_eq]; simp only [List.length_append, List.length_cons, List.length_nil]; have z := s5 none (some (kn : Int)); have z2 := s5 (some ((kn : Int) + 1)) none; omega) ?_
        walk_at "go"
        refine jr_cat rfl rfl (by rw [sizeLine_eq]; simp only [List.length_append, List.length_cons, List.length_nil]; have z := s5 none (some (kn : Int)); have z2 := s5 (some ((kn : Int) + 1)) none; omega) ?_
        rw [cut_set (by rw [List.length_map, qok.l]; exact kn1)]
        walk_at "go"
        refine jx_seq rfl (.inl rfl) lq ?_
        walk_at "go"
        refine jx_seq rfl (.inl rfl) lq ?_
        walk_at "go"
        refine jr_cat rfl rfl (by rw [sizeLine_eq]; simp only [List.length_append, List.length_cons, List.length_nil]; have z := s1 none (some (an : Int)); have z2 := s1 (some ((an : Int) + 1)) none; omega) ?_
        walk_at "go"
        refine jr_cat rfl rfl (by rw [sizeLine_eq]; simp only [List.length_append, List.length_cons, List.length_nil]; have z := s1 none (some (an : Int)); have z2 := s1 (some ((an : Int) + 1)) none; omega) ?_
        rw [cut_set (by rw [List.length_map]; exact an1)]
        walk_at "go"
        exact ⟨cds4, goal0, rows0.set an ⟨q.r.set kn (rk + ch), q.s, q.b⟩, free0, fo0, y0, some (frs q.r), none, none, none, hp4, md.setRow ⟨by show (q.r.set kn _).length = c; rw [List.length_set]; exact qok.l, all_set qok.rq ((rkq.add chq).mono (by decide)), qok.b.mono (by omega), qok.s⟩, rfl, by rw [rwsD_set, show rwD ⟨q.r.set kn (rk + ch), q.s, q.b⟩ = .nd .tup [.nd .lst ((q.r.map frQ).set kn (frQ (rk + ch))), .str q.s, frQ q.b] from by show D.nd .tup [frs (q.r.set kn (rk + ch)), _, _] = _; rw [frs_set]]; rfl⟩
      · cases fo0 with
        | none =>
          walk_at "go"
          exact ⟨cds4, goal0, rows0, free0, none, y0, none, none, none, none, hp4, md, rfl, rfl⟩
        | some x0 =>
          have xo := hM.xo x0 rfl
          have s6 : ∀ lo hi, (DL.cutD (x0.map frQ) lo hi).length ≤ 6 := fun lo hi => Nat.le_trans cutD_len (by rw [List.length_map]; omega)
          obtain ⟨xk, ex⟩ := get_of (show kn < x0.length by omega)
          have lx : L2.atI ((x0.map frQ).map E.d) (kn : Int) = some (.d (frQ xk)) := L2.atI_nat (by rw [List.getElem?_map, List.getElem?_map, ex]; rfl)
          walk_at "go"
          refine jx_seq rfl (.inl rfl) lx ?_
          walk_at "go"
          refine ap_op 39 4 (xo.2 _ (List.mem_of_getElem? ex)) chq (by decide) (by decide) (by decide) trivial ?_
          walk_at "go"
          refine jr_cat rfl rfl (by rw [sizeLine_eq]; simp only [List.length_append, List.length_cons, List.length_nil]; have z := s6 none (some (kn : Int)); have z2 := s6 (some ((kn : Int) + 1)) none; omega) ?_
          walk_at "go"
          refine jr_cat rfl rfl (by rw [sizeLine_eq]; simp only [List.length_append, List.length_cons, List.length_nil]; have z := s6 none (some (kn : Int)); have z2 := s6 (some ((kn : Int) + 1)) none; omega) ?_
          rw [cut_set (by rw [List.length_map]; omega)]
          walk_at "go"
          exact ⟨cds4, goal0, rows0, free0, some (x0.set kn (xk + ch)), y0, none, none, none, none, hp4, md.x' (by show (x0.set kn _).length ≤ 6; rw [List.length_set]; omega) (all_set (fun a ha => (xo.2 a ha).mono (by decide)) (((xo.2 _ (List.mem_of_getElem? ex)).add chq).mono (by decide))), rfl, by show _ = (⟨[_, _, _, _, _, some (.d (.nd .lst ((x0.set kn (xk + ch)).map frQ))), _, _, _, _, _, _, _, _, _, _], _, _⟩ : S); rw [List.map_set]; rfl⟩
      · refine ap_draw hp4 (lim_of (by omega) (by omega)) fun p_ cds5 p0 p1 hp5 => ?_
        obtain ⟨pn, rfl⟩ : ∃ pn : Nat, p_ = pn := ⟨p_.toNat, by omega⟩
        refine rtΦ_dat ?_
        have pn1 : pn < y0.length := by omega
        obtain ⟨yk, ey⟩ := get_of pn1
        have lyk : L2.atI ((y0.map frQ).map E.d) (pn : Int) = some (.d (frQ yk)) := L2.atI_nat (by rw [List.getElem?_map, List.getElem?_map, ey]; rfl)
        have yq := hM.yq yk (List.mem_of_getElem? ey)
        walk_at "go"
        refine jx_seq rfl (.inl rfl) lyk ?_
        walk_at "go"
        refine ap_op 39 4 yq chq (by decide) (by decide) (by decide) trivial ?_
        walk_at "go"
        refine jr_cat rfl rfl (by rw [sizeLine_eq]; simp only [List.length_append, List.length_cons, List.length_nil]; have z := s4 none (some (pn : Int)); have z2 := s4 (some ((pn : Int) + 1)) none; omega) ?_
        walk_at "go"
        refine jr_cat rfl rfl (by rw [sizeLine_eq]; simp only [List.length_append, List.length_cons, List.length_nil]; have z := s4 none (some (pn : Int)); have z2 := s4 (some ((pn : Int) + 1)) none; omega) ?_
        rw [cut_set (by rw [List.length_map]; exact pn1)]
        walk_at "go"
        exact ⟨cds5, goal0, rows0, free0, fo0, y0.set pn (yk + ch), none, none, none, some (.int pn), hp5, md.y' (by rw [List.length_set]; omega) (all_set (fun a ha => (hM.yq a ha).mono (by decide)) ((yq.add chq).mono (by decide))), rfl, by rw [frs_set]; rfl⟩
      · refine jr_cat (ds1 := y0.map frQ) (ds2 := [frQ 0]) rfl rfl (by rw [List.length_map, sizeLine_eq]; simp; omega) ?_
        walk_at "go"
        rw [cut_last]
        walk_at "go"
        refine je_cut (e1 := .d (frs (y0.map ((-1) * ·)))) ?_ ?_
        · refine je_lcP bx (blk_ok hX (own := [("number", 15)]) (by decide +kernel)) (j := 15) (by decide) (fun Y hY => (hY.is hX).nmW rfl (by decide +kernel)) (ji_lst ?_) (by intro _; rfl)
          walk_at "go"
          refine ⟨rfl, by rw [List.length_map]; omega, fun i => frQ ((y0.map ((-1) * ·)).getD i 0), ?_, ?_, rfl⟩
          · rintro i v acc hi ⟨d, hd, rfl⟩ Y hY
            rw [List.getElem?_map] at hd
            cases ex : y0[i]? with
            | none => rw [ex] at hd; cases hd
            | some x =>
              rw [ex] at hd
              cases hd
              have hg : (y0.map ((-1) * ·)).getD i 0 = (-1) * x := getD_at (by rw [List.getElem?_map, ex]; rfl)
              have hYX := hY.is hX; have bY := hYX.bx; have e_law_mul := c_law_mul.at hYX (by decide +kernel); have r15Y := hYX.nmR (i := 15) (x := "number") rfl (by first | exact Or.inl (by decide +kernel) | exact Or.inr (Or.inl (by decide +kernel)) | exact Or.inr (Or.inr (by decide +kernel)))
              walk_at "go"
              show R_mul [frQ (-1), frQ x] _
              refine ap_op 1 39 ⟨(by show (_ : Nat) < _; decide), by decide⟩ (hM.yq _ (List.mem_of_getElem? ex)) (by decide) (by decide) (by decide) trivial ?_
              walk_at "go"
              exact ⟨by show _ = E.d (frQ ((y0.map ((-1) * ·)).getD i 0)); rw [hg], rfl⟩
          · have e := range_getD frQ 0 (y0.map ((-1) * ·))
            rw [List.length_map] at e
            rw [List.length_map, e]
        walk_at "go"
        refine ap_pick hp4 (.inl rfl) (by simp) (by simp) fun d cds5 hd hp5 => ?_
        refine rtΦ_dat ?_
        obtain ⟨y', rfl, yl', yq'⟩ : ∃ y' : List Rat, d = frs y' ∧ y'.length ≤ 8 ∧ ∀ a ∈ y', QB 45 a := by
          simp only [List.mem_cons, List.not_mem_nil, or_false] at hd
          rcases hd with rfl | rfl | rfl
          · refine ⟨y0 ++ [0], by unfold frs; rw [List.map_append]; rfl, by rw [List.length_append]; simp; omega, fun a ha => ?_⟩
            rcases List.mem_append.mp ha with ha | ha
            · exact (hM.yq a ha).mono (by decide)
            · obtain rfl : a = _ := by simpa using ha
              exact QB_0 (by decide)
          · exact ⟨y0.dropLast, rfl, by rw [List.length_dropLast]; omega, fun a ha => (hM.yq a (List.dropLast_subset _ ha)).mono (by decide)⟩
          · refine ⟨_, rfl, by rw [List.length_map]; omega, fun a ha => ?_⟩
            obtain ⟨b, hb, rfl⟩ := List.mem_map.mp ha
            exact (QB.mul (k := 1) (x := -1) ⟨(by show (_ : Nat) < _; decide), by decide⟩ (hM.yq b hb)).mono (by decide)
        walk_at "go"
        exact ⟨cds5, goal0, rows0, free0, fo0, y', none, none, none, none, hp5, md.y' yl' yq', rfl, rfl⟩
      · refine jx_seq rfl (.inl rfl) lf ?_
        walk_at "go"
        refine jr_cat rfl rfl (by rw [sizeLine_eq]; simp only [List.length_append, List.length_cons, List.length_nil]; have z := s3 none (some (kn : Int)); have z2 := s3 (some ((kn : Int) + 1)) none; omega) ?_
        walk_at "go"
        refine jr_cat rfl rfl (by rw [sizeLine_eq]; simp only [List.length_append, List.length_cons, List.length_nil]; have z := s3 none (some (kn : Int)); have z2 := s3 (some ((kn : Int) + 1)) none; omega) ?_
        rw [cut_set (by rw [List.length_map]; omega)]
        walk_at "go"
        exact ⟨cds4, goal0, rows0, free0.set kn (!fr), fo0, y0, none, none, none, none, hp4, md.free' (by rw [List.length_set]; exact h6), rfl, by rw [bls_set]; rfl⟩
      · refine jx_seq rfl (.inl rfl) lq ?_
        walk_at "go"
        refine jx_seq rfl (.inl rfl) lq ?_
        walk_at "go"
        all_goals
          refine jx_seq rfl (.inl rfl) lq ?_
          walk_at "go"
          refine jr_cat rfl rfl (by rw [sizeLine_eq]; simp only [List.length_append, List.length_cons, List.length_nil]; have z := s1 none (some (an : Int)); have z2 := s1 (some ((an : Int) + 1)) none; omega) ?_
          walk_at "go"
          refine jr_cat rfl rfl (by rw [sizeLine_eq]; simp only [List.length_append, List.length_cons, List.length_nil]; have z := s1 none (some (an : Int)); have z2 := s1 (some ((an : Int) + 1)) none; omega) ?_
          rw [cut_set (by rw [List.length_map]; exact an1)]
          walk_at "go"
        · exact ⟨cds4, goal0, rows0.set an ⟨q.r, sJ, q.b⟩, free0, fo0, y0, none, none, none, none, hp4, md.setRow ⟨qok.l, qok.rq, qok.b.mono (by omega), .inl rfl⟩, rfl, by rw [rwsD_set]; rfl⟩
        · exact ⟨cds4, goal0, rows0.set an ⟨q.r, sM, q.b⟩, free0, fo0, y0, none, none, none, none, hp4, md.setRow ⟨qok.l, qok.rq, qok.b.mono (by omega), .inr rfl⟩, rfl, by rw [rwsD_set]; rfl⟩
      · cases fo0 with
        | none =>
          walk_at "go"
          exact ⟨cds4, goal0, rows0, free0, none, y0, none, none, none, none, hp4, md, rfl, rfl⟩
        | some x0 =>
          have xo := hM.xo x0 rfl
          have s6 : ∀ lo hi, (DL.cutD (x0.map frQ) lo hi).length ≤ 6 := fun lo hi => Nat.le_trans cutD_len (by rw [List.length_map]; omega)
          walk_at "go"
          refine jr_cat (ds1 := x0.map frQ) (ds2 := [frQ 0]) rfl rfl (by rw [List.length_map, sizeLine_eq]; simp; omega) ?_
          walk_at "go"
          rw [cut_last]
          walk_at "go"
          refine ap_pick hp4 (.inl rfl) (by simp) (by simp) fun d cds5 hd hp5 => ?_
          refine rtΦ_dat ?_
          obtain ⟨x', rfl, xl', xq'⟩ : ∃ x' : List Rat, d = frs x' ∧ x'.length ≤ 6 ∧ ∀ a ∈ x', QB 45 a := by
            simp only [List.mem_cons, List.not_mem_nil, or_false] at hd
            rcases hd with rfl | rfl
            · refine ⟨x0 ++ [0], by unfold frs; rw [List.map_append]; rfl, by rw [List.length_append]; simp; omega, fun a ha => ?_⟩
              rcases List.mem_append.mp ha with ha | ha
              · exact (xo.2 a ha).mono (by decide)
              · obtain rfl : a = _ := by simpa using ha
                exact QB_0 (by decide)
            · exact ⟨x0.dropLast, rfl, by rw [List.length_dropLast]; omega, fun a ha => (xo.2 a (List.dropLast_subset _ ha)).mono (by decide)⟩
          walk_at "go"
          exact ⟨cds5, goal0, rows0, free0, some x', y0, none, none, none, none, hp5, md.x' xl' xq', rfl, rfl⟩
      · exact ⟨cds4, goal0, rows0, free0, fo0, y0, none, none, none, none, hp4, md, rfl, rfl⟩
    · rintro s1 ⟨cds, goal, rows, free, fo, y, o11, o12, o13, o14, hp, hmd, hfo, rfl⟩
      walk_at "go"
      exact ⟨.lst, _, _, rfl, dsOf_map _, k goal rows free fo y cds hmd hfo hp⟩
end
theorem Sm_lst_same {n : Nat} {ds : List D} (hs : ds.length ≤ 16000000) (h : ∀ x ∈ ds, Sm n x x) : Sm (n + 1) (.nd .lst ds) (.nd .lst ds) :=
  ⟨ds, rfl, rfl, hs, fun i x y h1 h2 => by
    rw [h1] at h2; cases h2; exact h x (List.mem_of_getElem? h1)⟩
theorem Sm_tup_same {n : Nat} {ds : List D} (hs : ds.length ≤ 16000000) (h : ∀ x ∈ ds, Sm n x x) : Sm (n + 1) (.nd .tup ds) (.nd .tup ds) :=
  ⟨ds, rfl, rfl, hs, fun i x y h1 h2 => by
    rw [h1] at h2; cases h2; exact h x (List.mem_of_getElem? h1)⟩
theorem Sm_int (n : Nat) (i : Int) : Sm (n + 1) (.int i) (.int i) := rfl
theorem Sm_str (n : Nat) (i : Str) : Sm (n + 1) (.str i) (.str i) := rfl
theorem Sm_bl (n : Nat) (i : Bool) : Sm (n + 1) (.bl i) (.bl i) := rfl
theorem Sm_frQ (n : Nat) (x : Rat) : Sm (n + 2) (frQ x) (frQ x) := Sm_tup_same (by simp) fun y hy => by
  simp only [List.mem_cons, List.not_mem_nil, or_false] at hy
  rcases hy with rfl | rfl <;> exact rfl
theorem Sm_frs (n : Nat) {xs : List Rat} (h : xs.length ≤ 100) : Sm (n + 3) (frs xs) (frs xs) := Sm_lst_same (by rw [List.length_map]; omega) fun y hy => by
  obtain ⟨x, _, rfl⟩ := List.mem_map.mp hy
  exact Sm_frQ n x
theorem Sm_bls (n : Nat) {xs : List Bool} (h : xs.length ≤ 100) : Sm (n + 2) (bls xs) (bls xs) := Sm_lst_same (by rw [List.length_map]; omega) fun y hy => by
  obtain ⟨x, _, rfl⟩ := List.mem_map.mp hy
  exact Sm_bl n x
theorem Sm_rw (n : Nat) {q : Rw} (h : q.r.length ≤ 100) : Sm (n + 4) (rwD q) (rwD q) := Sm_tup_same (by simp) fun y hy => by
  simp only [List.mem_cons, List.not_mem_nil, or_false] at hy
  rcases hy with rfl | rfl | rfl
  · exact Sm_frs n h
  · exact Sm_str _ _
  · exact Sm_frQ _ _
theorem Sm_rws (n : Nat) {qs : List Rw} (hl : qs.length ≤ 100) (h : ∀ q ∈ qs, q.r.length ≤ 100) : Sm (n + 5) (rwsD qs) (rwsD qs) := Sm_lst_same (by rw [List.length_map]; omega) fun y hy => by
  obtain ⟨x, hx, rfl⟩ := List.mem_map.mp hy
  exact Sm_rw n (h x hx)
abbrev sN : Str := "none"
abbrev sB : Str := "best"
abbrev sE : Str := "endless"
def Kw (wd : Str) (b : Bool) (B : Nat) : Prop := (wd = sN ∧ b = false ∧ B = 240) ∨ (wd = sB ∧ b = true ∧ B = 240) ∨ (wd = sE ∧ b = true ∧ B = 990)
def dueV (wd : Str) (goal : List Rat) (rows : List Rw) (free : List Bool) (fo : Option (List Rat)) (y : List Rat) : Bool := match fo with
  | none => noneV goal rows free y
  | some x => if wd = sB then bestV goal rows free x y else endV goal rows free x y
theorem dueV_b {goal : List Rat} {rows : List Rw} {free : List Bool} {x y : List Rat} : dueV sB goal rows free (some x) y = bestV goal rows free x y := by unfold dueV; exact if_pos rfl
theorem dueV_e {wd : Str} {goal : List Rat} {rows : List Rw} {free : List Bool} {x y : List Rat} (h : ¬ wd = sB) : dueV wd goal rows free (some x) y = endV goal rows free x y := if_neg h
theorem nBE : ¬ sE = sB := by decide
theorem nNE : ¬ sE = sN := by decide
theorem nNB : ¬ sB = sN := by decide
theorem ap_due {wd : Str} {B c : Nat} {goal : List Rat} {rows : List Rw} {free : List Bool} {fo : Option (List Rat)} {y : List Rat} {post : Rt → Prop} (hk : Kw wd fo.isSome B) (h : Md (B + 10) c goal rows free (fo.getD []) y) (q : post (.dat (.bl (dueV wd goal rows free fo y)))) : R_due [.str wd, mdD goal rows free (foD fo) y] post := by
  rcases hk with ⟨rfl, h2, rfl⟩ | ⟨rfl, h2, rfl⟩ | ⟨rfl, h2, rfl⟩
  · cases fo with
    | some x => cases h2
    | none => exact ⟨goal, rows, free, [], y, c, .inl ⟨rfl, h, q⟩⟩
  · cases fo with
    | none => cases h2
    | some x => exact ⟨goal, rows, free, x, y, c, .inr (.inl ⟨rfl, h, by rw [dueV_b] at q; exact q⟩)⟩
  · cases fo with
    | none => cases h2
    | some x => exact ⟨goal, rows, free, x, y, c, .inr (.inr ⟨rfl, h, by rw [dueV_e nBE] at q; exact q⟩)⟩
def R_law : RP := fun ds post => ∃ ns : List Int, ds = [lsI ns] ∧ ns.length ≤ 63 ∧ post (.dat (.bl true))
section
variable {P : Program} {w : World} {K : PySem.W.Frag} {mg : Str → Option Value} {base : Heap}
theorem ok_law {f : Addr} {fd : FuncData} (C : Bs2 mg) (c_law_pool : CaP P w K mg base "_law_pool" 3 R_pool) (c_law_next : CaC P w K mg base "_law_next" 3 R_next) (c_law_draw : CaC P w K mg base "_law_draw" 3 R_draw) (c_law_made_best : CaC P w K mg base "_law_made_best" 6 R_mbest) (c_law_made_none : CaC P w K mg base "_law_made_none" 6 R_mnone) (c_law_made_endless : CaC P w K mg base "_law_made_endless" 6 R_mend) (c_law_due : CaP P w K mg base "_law_due" 7 R_due) (c_law_bent : CaC P w K mg base "_law_bent" 5 R_bent) (c_law_copied : CaP P w K mg base "_law_copied" 1 R_copied) (c_law_same : CaP P w K mg base "_law_same" 6 (R_same 6)) (c_shows_best : CaP P w K mg base "shows_best" 6 R_best) (c_shows_none : CaP P w K mg base "shows_none" 6 R_none) (c_shows_endless : CaP P w K mg base "shows_endless" 6 R_end)
    (Fu : Fun K "law" "law" s_law f fd) : FnOk P w K mg base CX0 8 f fd ["script"] (spP K R_law) := by
  refine fn_P Fu sc_law (fun ds post h => ?_) fun X F ds post hX hfn hH h => ?_
  · obtain ⟨_, rfl, _⟩ := h
    rfl
  · obtain ⟨ns, rfl, hns, k⟩ := h
    have bx := hX.bx
    have r0 := hX.nmR (i := 0) (x := "script") rfl (by first | exact Or.inl (by decide +kernel) | exact Or.inr (Or.inl (by decide +kernel))); have w0 := hX.nmW (i := 0) (x := "script") rfl (by decide +kernel); have r1 := hX.nmR (i := 1) (x := "pool") rfl (by first | exact Or.inl (by decide +kernel) | exact Or.inr (Or.inl (by decide +kernel))); have w1 := hX.nmW (i := 1) (x := "pool") rfl (by decide +kernel); have r2 := hX.nmR (i := 2) (x := "word") rfl (by first | exact Or.inl (by decide +kernel) | exact Or.inr (Or.inl (by decide +kernel))); have w2 := hX.nmW (i := 2) (x := "word") rfl (by decide +kernel); have r3 := hX.nmR (i := 3) (x := "count") rfl (by first | exact Or.inl (by decide +kernel) | exact Or.inr (Or.inl (by decide +kernel))); have w3 := hX.nmW (i := 3) (x := "count") rfl (by decide +kernel); have r4 := hX.nmR (i := 4) (x := "many") rfl (by first | exact Or.inl (by decide +kernel) | exact Or.inr (Or.inl (by decide +kernel))); have w4 := hX.nmW (i := 4) (x := "many") rfl (by decide +kernel); have r5 := hX.nmR (i := 5) (x := "made") rfl (by first | exact Or.inl (by decide +kernel) | exact Or.inr (Or.inl (by decide +kernel))); have w5 := hX.nmW (i := 5) (x := "made") rfl (by decide +kernel); have r6 := hX.nmR (i := 6) (x := "turn") rfl (by first | exact Or.inl (by decide +kernel) | exact Or.inr (Or.inl (by decide +kernel))); have w6 := hX.nmW (i := 6) (x := "turn") rfl (by decide +kernel); have r7 := hX.nmR (i := 7) (x := "bent") rfl (by first | exact Or.inl (by decide +kernel) | exact Or.inr (Or.inl (by decide +kernel))); have w7 := hX.nmW (i := 7) (x := "bent") rfl (by decide +kernel); have r8 := hX.nmR (i := 8) (x := "goal") rfl (by first | exact Or.inl (by decide +kernel) | exact Or.inr (Or.inl (by decide +kernel))); have w8 := hX.nmW (i := 8) (x := "goal") rfl (by decide +kernel); have r9 := hX.nmR (i := 9) (x := "rows") rfl (by first | exact Or.inl (by decide +kernel) | exact Or.inr (Or.inl (by decide +kernel))); have w9 := hX.nmW (i := 9) (x := "rows") rfl (by decide +kernel); have r10 := hX.nmR (i := 10) (x := "free") rfl (by first | exact Or.inl (by decide +kernel) | exact Or.inr (Or.inl (by decide +kernel))); have w10 := hX.nmW (i := 10) (x := "free") rfl (by decide +kernel); have r11 := hX.nmR (i := 11) (x := "second") rfl (by first | exact Or.inl (by decide +kernel) | exact Or.inr (Or.inl (by decide +kernel))); have w11 := hX.nmW (i := 11) (x := "second") rfl (by decide +kernel); have r12 := hX.nmR (i := 12) (x := "told") rfl (by first | exact Or.inl (by decide +kernel) | exact Or.inr (Or.inl (by decide +kernel))); have w12 := hX.nmW (i := 12) (x := "told") rfl (by decide +kernel); have d_law_pool := c_law_pool.at hX (by decide +kernel); have d_law_next := c_law_next.at hX (by decide +kernel); have d_law_draw := c_law_draw.at hX (by decide +kernel); have d_law_made_best := c_law_made_best.at hX (by decide +kernel); have d_law_made_none := c_law_made_none.at hX (by decide +kernel); have d_law_made_endless := c_law_made_endless.at hX (by decide +kernel); have d_law_due := c_law_due.at hX (by decide +kernel); have g_range := hX.glb (x := "range") (by decide +kernel) C.b_range; have d_law_bent := c_law_bent.at hX (by decide +kernel); have d_law_copied := c_law_copied.at hX (by decide +kernel); have g_list := hX.glb (x := "list") (by decide +kernel) C.b_list; have d_shows_none := c_shows_none.at hX (by decide +kernel); have d_shows_best := c_shows_best.at hX (by decide +kernel); have d_shows_endless := c_shows_endless.at hX (by decide +kernel); have d_law_same := c_law_same.at hX (by decide +kernel)
    conv => (arg 3; whnf)
    walk_at "go"
    refine ap_pool fun cds hp => ?_
    refine rtX_P (rtΦ_new ?_) rfl
    refine jss_for bx (fun i s => ∃ (cds : List D) (o2 o3 o4 o5 o6 o7 o8 o9 o10 o11 o12 : Option D), PoolD cds ∧ s = ⟨[some (.d (lsI ns)), some (.r 0), o2.map .d, o3.map .d, o4.map .d, o5.map .d, o6.map .d, o7.map .d, o8.map .d, o9.map .d, o10.map .d, o11.map .d, o12.map .d], [.nd .lst (cds.map .d)], 0⟩) (ji_lst ?_) (by intro _; rfl)
    walk_at "go"
    refine ⟨⟨cds, none, none, none, none, none, none, none, none, none, none, none, hp, rfl⟩, ?_, ?_⟩
    · rintro i v s' hi ⟨d, hd, rfl⟩ ⟨cds0, o2, o3, o4, o5, o6, o7, o8, o9, o10, o11, o12, hp0, rfl⟩
      obtain ⟨wd, rfl, hw⟩ : ∃ wd : Str, d = .str wd ∧ (wd = sN ∨ wd = sB ∨ wd = sE) := by
        match i, hd with
        | 0, hd => cases hd; exact ⟨_, rfl, .inr (.inl rfl)⟩
        | 1, hd => cases hd; exact ⟨_, rfl, .inl rfl⟩
        | 2, hd => cases hd; exact ⟨_, rfl, .inr (.inr rfl)⟩
        | i + 3, hd => cases hd
      walk_at "go"
      refine ap_next hp0 fun cds1 hp1 => ?_
      refine rtΦ_dat ?_
      walk_at "go"
      refine ap_draw hp1 (lim_of (by decide) (by decide)) fun ci cds2 c0 c1 hp2 => ?_
      refine rtΦ_dat ?_
      walk_at "go"
      refine ap_draw hp2 (lim_of (by decide) (by decide)) fun mi cds3 m0 m1 hp3 => ?_
      refine rtΦ_dat ?_
      obtain ⟨c, ec⟩ : ∃ c : Nat, 1 + ci = c := ⟨(1 + ci).toNat, by omega⟩
      obtain ⟨m, em⟩ : ∃ m : Nat, 1 + mi = m := ⟨(1 + mi).toNat, by omega⟩
      walk_at "go"
      rw [ec, em]
      refine ap_mbest hp3 (by omega) (by omega) (by omega) (by omega) fun goal rows free x y cds4 b1 b2 b3 b4 b5 b6 b7 b8 b9 b10 b11 hp4 => ?_
      refine rtΦ_dat ?_
      have hMb : Mk 240 c goal rows free (some x) y := ⟨by omega, by omega, by omega, by omega, b5, b6, b7, b4, b10, fun x' e => by cases e; exact ⟨b2, b8⟩, by omega, by omega, b9⟩
      refine jss_ifM (fun s1 => ∃ (cds : List D) (goal : List Rat) (rows : List Rw) (free : List Bool) (fo : Option (List Rat)) (y : List Rat) (B : Nat), PoolD cds ∧ (0 < B ∧ B ≤ 1000) ∧ Mk B c goal rows free fo y ∧ Kw wd fo.isSome B ∧ dueV wd goal rows free fo y = true ∧ s1 = ⟨[some (.d (lsI ns)), some (.r 0), some (.d (.str wd)), some (.d (.int c)), some (.d (.int m)), some (.d (mdD goal rows free (foD fo) y)), o6.map .d, o7.map .d, o8.map .d, o9.map .d, o10.map .d, o11.map .d, o12.map .d], [.nd .lst (cds.map .d)], 0⟩) ?_ ?_
      · walk_at "go"
        · rename_i h1
          refine ap_mnone hp4 (by omega) (by omega) (by omega) (by omega) fun goal2 rows2 free2 y2 cds5 e1 e2 e3 e4 e5 e6 e7 e8 e9 hp5 => ?_
          refine rtΦ_dat ?_
          walk_at "go"
          exact ⟨cds5, goal2, rows2, free2, none, y2, 240, hp5, ⟨by decide, by decide⟩, ⟨by omega, by omega, by omega, by omega, e4, e5, e6, e3, e8, fun x' e => (by cases e), by omega, by omega, e7⟩, .inl ⟨h1, rfl, rfl⟩, e9, rfl⟩
        · rename_i h1 h2
          refine ap_mend hp4 (by omega) (by omega) (by omega) (by omega) fun goal2 rows2 free2 x2 y2 cds5 e1 e2 e3 e4 e5 e6 e7 e8 e9 e10 e11 hp5 => ?_
          refine rtΦ_dat ?_
          walk_at "go"
          exact ⟨cds5, goal2, rows2, free2, some x2, y2, 990, hp5, ⟨by decide, by decide⟩, ⟨by omega, by omega, by omega, by omega, e5, e6, e7, e4, e10, fun x' e => by cases e; exact ⟨e2, e8⟩, by omega, by omega, e9⟩, .inr (.inr ⟨h2, rfl, rfl⟩), by rw [dueV_e (by rw [show wd = sE from h2]; exact nBE)]; exact e11, rfl⟩
        · rename_i h1 h2
          have hwb : wd = sB := by
            rcases hw with h | h | h
            · exact absurd h h1
            · exact h
            · exact absurd h h2
          exact ⟨cds4, goal, rows, free, some x, y, 240, hp4, ⟨by decide, by decide⟩, hMb, .inr (.inl ⟨hwb, rfl, rfl⟩), by rw [hwb, dueV_b]; exact b11, rfl⟩
      rintro s1 ⟨cds5, goal, rows, free, fo, y, B, hp5, hB, hM, hK, hD, rfl⟩
      clear hMb b1 b2 b3 b4 b5 b6 b7 b8 b9 b10 b11
      walk_at "go"
      refine ap_due hK hM.md ?_
      rw [hD]
      walk_at "go"
      refine jss_for bx (fun i s => ∃ (cds : List D) (o6 o7 o8 o9 o10 o11 o12 : Option D), PoolD cds ∧ s = ⟨[some (.d (lsI ns)), some (.r 0), some (.d (.str wd)), some (.d (.int c)), some (.d (.int m)), some (.d (mdD goal rows free (foD fo) y)), o6.map .d, o7.map .d, o8.map .d, o9.map .d, o10.map .d, o11.map .d, o12.map .d], [.nd .lst (cds.map .d)], 0⟩) (ji_range1 g_range ?_) (by intro _; rfl)
      walk_at "go"
      refine ⟨by decide, ⟨cds5, o6, o7, o8, o9, o10, o11, o12, hp5, rfl⟩, ?_, ?_⟩
      · rintro i v s' hi he ⟨cds, o6, o7, o8, o9, o10, o11, o12, hp, rfl⟩
        obtain rfl : v = _ := he
        walk_at "go"
        refine ap_next hp fun cds1 hp1 => ?_
        refine rtΦ_dat ?_
        refine jss_set w7 (JE.mono (Φ := fun e1 s1 => ∃ (cds2 : List D) (goal2 : List Rat) (rows2 : List Rw) (free2 : List Bool) (fo2 : Option (List Rat)) (y2 : List Rat), e1 = .d (mdD goal2 rows2 free2 (foD fo2) y2) ∧ PoolD cds2 ∧ Md (B + 10) c goal2 rows2 free2 (fo2.getD []) y2 ∧ fo2.isSome = fo.isSome ∧ s1 = ⟨[some (.d (lsI ns)), some (.r 0), some (.d (.str wd)), some (.d (.int c)), some (.d (.int m)), some (.d (mdD goal rows free (foD fo) y)), some (.d (.int (0 + i))), o7.map .d, o8.map .d, o9.map .d, o10.map .d, o11.map .d, o12.map .d], [.nd .lst (cds2.map .d)], 0⟩) ?_ ?_) (by rfl)
        · walk_at "go"
          · refine ap_bent hp1 hB hM fun goal2 rows2 free2 fo2 y2 cds2 hmd hfo hp2 => ?_
            refine rtΦ_dat ?_
            exact ⟨cds2, goal2, rows2, free2, fo2, y2, rfl, hp2, hmd, hfo, rfl⟩
          · exact ⟨cds1, goal, rows, free, fo, y, rfl, hp1, hM.md, rfl, rfl⟩
        rintro e1 s1 ⟨cds2, goal2, rows2, free2, fo2, y2, rfl, hp2, hmd, hfo, rfl⟩
        have hK2 : Kw wd fo2.isSome B := by rw [hfo]; exact hK
        have r6 := hmd.pr.rl
        walk_at "go"
        refine ap_copied r6 ?_
        walk_at "go"
        refine jg_lst bx rfl rfl ?_
        walk_at "go"
        refine ⟨.lst, y2.map frQ, rfl, .inl rfl, ?_⟩
        refine jss_ifM (fun s1 => s1 = ⟨[some (.d (lsI ns)), some (.r 0), some (.d (.str wd)), some (.d (.int c)), some (.d (.int m)), some (.d (mdD goal rows free (foD fo) y)), some (.d (.int (0 + i))), some (.d (mdD goal2 rows2 free2 (foD fo2) y2)), some (.d (frs goal2)), some (.d (rwsD rows2)), some (.d (bls free2)), some (.d (frs y2)), some (.d (.bl (dueV wd goal2 rows2 free2 fo2 y2)))], [.nd .lst (cds2.map .d)], 0⟩) ?_ ?_
        · rcases hK2 with ⟨rfl, h2, rfl⟩ | ⟨rfl, h2, rfl⟩ | ⟨rfl, h2, rfl⟩
          · cases fo2 with
            | some x2 => cases h2
            | none =>
              walk_at "go"
              all_goals try contradiction
              refine ap_none (c := c) hmd ?_
              walk_at "go"
              rfl
          · cases fo2 with
            | none => cases h2
            | some x2 =>
              walk_at "go"
              all_goals try (exact absurd ‹sB = sN› nNB)
              all_goals try contradiction
              refine ⟨.lst, x2.map frQ, rfl, .inl rfl, ?_⟩
              walk_at "go"
              refine ap_best (c := c) hmd ?_
              walk_at "go"
              rw [dueV_b]; rfl
          · cases fo2 with
            | none => cases h2
            | some x2 =>
              walk_at "go"
              all_goals try (exact absurd ‹sE = sN› nNE)
              all_goals try (exact absurd ‹sE = sB› nBE)
              all_goals try contradiction
              refine ⟨.lst, x2.map frQ, rfl, .inl rfl, ?_⟩
              walk_at "go"
              refine ap_end (c := c) hmd ?_
              walk_at "go"
              rw [dueV_e nBE]; rfl
        rintro s1 rfl
        walk_at "go"
        refine ap_due hK2 hmd ?_
        walk_at "go"
        refine ap_same (Sm_bl 5 _) ?_
        refine rtX_P (rtΦ_dat ?_) rfl
        walk_at "go"
        refine ap_copied r6 ?_
        walk_at "go"
        refine jr_cat rfl rfl (by rw [sizeLine_eq]; show 3 + 1 ≤ _; decide) ?_
        walk_at "go"
        refine ap_same (show Sm 6 (.nd .lst [frs goal2, rwsD rows2, bls free2, frs y2]) (.nd .lst [frs goal2, rwsD rows2, bls free2, frs y2]) from Sm_lst_same (by simp) fun z hz => ?_) ?_
        · have h1 := hmd.gl; have h2 := hmd.pr.cl; have h3 := hmd.pr.fl; have h4 := hmd.yl
          simp only [List.mem_cons, List.not_mem_nil, or_false] at hz
          rcases hz with rfl | rfl | rfl | rfl
          · exact Sm_frs 2 (by omega)
          · exact Sm_rws 0 (by omega) fun q hq => by have := (hmd.pr.rw q hq).l; omega
          · exact Sm_bls 3 (by omega)
          · exact Sm_frs 2 (by omega)
        refine rtX_P (rtΦ_dat ?_) rfl
        walk_at "go"
        exact ⟨cds2, some (.int (0 + i)), some (mdD goal2 rows2 free2 (foD fo2) y2), some (frs goal2), some (rwsD rows2), some (bls free2), some (frs y2), some (.bl (dueV wd goal2 rows2 free2 fo2 y2)), hp2, rfl⟩
      · rintro s' ⟨cds, o6, o7, o8, o9, o10, o11, o12, hp, rfl⟩
        walk_at "go"
        exact ⟨cds, some (.str wd), some (.int c), some (.int m), some (mdD goal rows free (foD fo) y), o6, o7, o8, o9, o10, o11, o12, hp, rfl⟩
    · rintro s' ⟨cds0, o2, o3, o4, o5, o6, o7, o8, o9, o10, o11, o12, hp0, rfl⟩
      walk_at "go"
      exact k
end
theorem fn_vac {P : Program} {w : World} {K : PySem.W.Frag} {mg : Str → Option Value} {base : Heap} {k : Nat} {f : Addr} {fd : FuncData} {ps : List Str} {R : RP} (h : ∀ ds post, R ds post → False) : FnOk P w K mg base CX0 k f fd ps (spP K R) :=
  ⟨fun vs H Q E ⟨_, _, _, _, z⟩ => (h _ _ z).elim, fun A outer s H args us vs Q E _ _ _ _ ⟨_, _, _, _, z⟩ => (h _ _ z).elim⟩
theorem law_sp {K : PySem.W.Frag} {H : Hp} {a : Addr} {ns : List Int} (hS : SqL K H a (ns.map V.int)) (hl : ns.length ≤ 63) : spP K R_law [.ref a] H (fun v _ => v = .bl true) fun _ _ _ => False :=
  ⟨H, [lsI ns], Same.refl _, .cons (.nd (k := .lst) hS (reps_ints ns)) .nil, ns, rfl, hl, fun v G' H' _ _ _ _ r => by cases r; rfl⟩
theorem all_mk {l : PySem.W.OpenLaw} {w : World} {K : PySem.W.Frag} {h : Heap} {mg : Str → Option Value} {fa f1 f2 f3 f4 f5 f6 f7 f8 f9 f10 f11 f12 f13 f14 f15 f16 f17 f18 f19 f20 f21 f22 f23 f24 f25 f26 f27 f28 f29 f30 f31 f32 f33 f34 f35 f36 f37 f38 f39 f40 f41 f42 f43 f44 : Addr} (X : K.In h) (G : h.Ns mainGlobals mg) (hfa : mg "law" = some (.ref fa))
    {od1 an1 : Option Addr} {sl1 : Array (Option Value)} {oc1 kV1 dc1 pm1 cd1 ct1 : Value}
    {od2 an2 : Option Addr} {sl2 : Array (Option Value)} {oc2 kV2 dc2 pm2 cd2 ct2 : Value}
    {od3 an3 : Option Addr} {sl3 : Array (Option Value)} {oc3 kV3 dc3 pm3 cd3 ct3 : Value}
    {od4 an4 : Option Addr} {sl4 : Array (Option Value)} {oc4 kV4 dc4 pm4 cd4 ct4 : Value}
    {od5 an5 : Option Addr} {sl5 : Array (Option Value)} {oc5 kV5 dc5 pm5 cd5 ct5 : Value}
    {od6 an6 : Option Addr} {sl6 : Array (Option Value)} {oc6 kV6 dc6 pm6 cd6 ct6 : Value}
    {od7 an7 : Option Addr} {sl7 : Array (Option Value)} {oc7 kV7 dc7 pm7 cd7 ct7 : Value}
    {od8 an8 : Option Addr} {sl8 : Array (Option Value)} {oc8 kV8 dc8 pm8 cd8 ct8 : Value}
    {od9 an9 : Option Addr} {sl9 : Array (Option Value)} {oc9 kV9 dc9 pm9 cd9 ct9 : Value}
    {od10 an10 : Option Addr} {sl10 : Array (Option Value)} {oc10 kV10 dc10 pm10 cd10 ct10 : Value}
    {od11 an11 : Option Addr} {sl11 : Array (Option Value)} {oc11 kV11 dc11 pm11 cd11 ct11 : Value}
    {od12 an12 : Option Addr} {sl12 : Array (Option Value)} {oc12 kV12 dc12 pm12 cd12 ct12 : Value}
    {od13 an13 : Option Addr} {sl13 : Array (Option Value)} {oc13 kV13 dc13 pm13 cd13 ct13 : Value}
    {od14 an14 : Option Addr} {sl14 : Array (Option Value)} {oc14 kV14 dc14 pm14 cd14 ct14 : Value}
    {od15 an15 : Option Addr} {sl15 : Array (Option Value)} {oc15 kV15 dc15 pm15 cd15 ct15 : Value}
    {od16 an16 : Option Addr} {sl16 : Array (Option Value)} {oc16 kV16 dc16 pm16 cd16 ct16 : Value}
    {od17 an17 : Option Addr} {sl17 : Array (Option Value)} {oc17 kV17 dc17 pm17 cd17 ct17 : Value}
    {od18 an18 : Option Addr} {sl18 : Array (Option Value)} {oc18 kV18 dc18 pm18 cd18 ct18 : Value}
    {od19 an19 : Option Addr} {sl19 : Array (Option Value)} {oc19 kV19 dc19 pm19 cd19 ct19 : Value}
    {od20 an20 : Option Addr} {sl20 : Array (Option Value)} {oc20 kV20 dc20 pm20 cd20 ct20 : Value}
    {od21 an21 : Option Addr} {sl21 : Array (Option Value)} {oc21 kV21 dc21 pm21 cd21 ct21 : Value}
    {od22 an22 : Option Addr} {sl22 : Array (Option Value)} {oc22 kV22 dc22 pm22 cd22 ct22 : Value}
    {od23 an23 : Option Addr} {sl23 : Array (Option Value)} {oc23 kV23 dc23 pm23 cd23 ct23 : Value}
    {od24 an24 : Option Addr} {sl24 : Array (Option Value)} {oc24 kV24 dc24 pm24 cd24 ct24 : Value}
    {od25 an25 : Option Addr} {sl25 : Array (Option Value)} {oc25 kV25 dc25 pm25 cd25 ct25 : Value}
    {od26 an26 : Option Addr} {sl26 : Array (Option Value)} {oc26 kV26 dc26 pm26 cd26 ct26 : Value}
    {od27 an27 : Option Addr} {sl27 : Array (Option Value)} {oc27 kV27 dc27 pm27 cd27 ct27 : Value}
    {od28 an28 : Option Addr} {sl28 : Array (Option Value)} {oc28 kV28 dc28 pm28 cd28 ct28 : Value}
    {od29 an29 : Option Addr} {sl29 : Array (Option Value)} {oc29 kV29 dc29 pm29 cd29 ct29 : Value}
    {od30 an30 : Option Addr} {sl30 : Array (Option Value)} {oc30 kV30 dc30 pm30 cd30 ct30 : Value}
    {od31 an31 : Option Addr} {sl31 : Array (Option Value)} {oc31 kV31 dc31 pm31 cd31 ct31 : Value}
    {od32 an32 : Option Addr} {sl32 : Array (Option Value)} {oc32 kV32 dc32 pm32 cd32 ct32 : Value}
    {od33 an33 : Option Addr} {sl33 : Array (Option Value)} {oc33 kV33 dc33 pm33 cd33 ct33 : Value}
    {od34 an34 : Option Addr} {sl34 : Array (Option Value)} {oc34 kV34 dc34 pm34 cd34 ct34 : Value}
    {od35 an35 : Option Addr} {sl35 : Array (Option Value)} {oc35 kV35 dc35 pm35 cd35 ct35 : Value}
    {od36 an36 : Option Addr} {sl36 : Array (Option Value)} {oc36 kV36 dc36 pm36 cd36 ct36 : Value}
    {od37 an37 : Option Addr} {sl37 : Array (Option Value)} {oc37 kV37 dc37 pm37 cd37 ct37 : Value}
    {od38 an38 : Option Addr} {sl38 : Array (Option Value)} {oc38 kV38 dc38 pm38 cd38 ct38 : Value}
    {od39 an39 : Option Addr} {sl39 : Array (Option Value)} {oc39 kV39 dc39 pm39 cd39 ct39 : Value}
    {od40 an40 : Option Addr} {sl40 : Array (Option Value)} {oc40 kV40 dc40 pm40 cd40 ct40 : Value}
    {od41 an41 : Option Addr} {sl41 : Array (Option Value)} {oc41 kV41 dc41 pm41 cd41 ct41 : Value}
    {od42 an42 : Option Addr} {sl42 : Array (Option Value)} {oc42 kV42 dc42 pm42 cd42 ct42 : Value}
    {od43 an43 : Option Addr} {sl43 : Array (Option Value)} {oc43 kV43 dc43 pm43 cd43 ct43 : Value}
    {od44 an44 : Option Addr} {sl44 : Array (Option Value)} {oc44 kV44 dc44 pm44 cd44 ct44 : Value}
    {q_ZERO : Addr} {od_ZERO : Option Addr} {sl_ZERO : Array (Option Value)} {t1_ZERO t2_ZERO : Tok} {n_ZERO : Nat}
    (a1 : PySem.W.nsIn K mainGlobals "ratio" = some (some (.ref f1))) (l1 : K.lookup f1 = some ⟨oc1, od1, .func (PySem.W.fnOf "ratio" "ratio" (defArgs s_ratio) (defBody s_ratio) (defScope s_ratio) .none kV1 dc1 pm1 an1 cd1 ct1), sl1⟩) (c1 : PySem.W.codeIn K cd1 "ratio" = true) (k1 : PySem.W.keepIn K (.ref f1) = true)
    (a2 : PySem.W.nsIn K mainGlobals "added" = some (some (.ref f2))) (l2 : K.lookup f2 = some ⟨oc2, od2, .func (PySem.W.fnOf "added" "added" (defArgs s_added) (defBody s_added) (defScope s_added) .none kV2 dc2 pm2 an2 cd2 ct2), sl2⟩) (c2 : PySem.W.codeIn K cd2 "added" = true) (k2 : PySem.W.keepIn K (.ref f2) = true)
    (a3 : PySem.W.nsIn K mainGlobals "times" = some (some (.ref f3))) (l3 : K.lookup f3 = some ⟨oc3, od3, .func (PySem.W.fnOf "times" "times" (defArgs s_times) (defBody s_times) (defScope s_times) .none kV3 dc3 pm3 an3 cd3 ct3), sl3⟩) (c3 : PySem.W.codeIn K cd3 "times" = true) (k3 : PySem.W.keepIn K (.ref f3) = true)
    (a4 : PySem.W.nsIn K mainGlobals "sign" = some (some (.ref f4))) (l4 : K.lookup f4 = some ⟨oc4, od4, .func (PySem.W.fnOf "sign" "sign" (defArgs s_sign) (defBody s_sign) (defScope s_sign) .none kV4 dc4 pm4 an4 cd4 ct4), sl4⟩) (c4 : PySem.W.codeIn K cd4 "sign" = true) (k4 : PySem.W.keepIn K (.ref f4) = true)
    (a5 : PySem.W.nsIn K mainGlobals "below" = some (some (.ref f5))) (l5 : K.lookup f5 = some ⟨oc5, od5, .func (PySem.W.fnOf "below" "below" (defArgs s_below) (defBody s_below) (defScope s_below) .none kV5 dc5 pm5 an5 cd5 ct5), sl5⟩) (c5 : PySem.W.codeIn K cd5 "below" = true) (k5 : PySem.W.keepIn K (.ref f5) = true)
    (a6 : PySem.W.nsIn K mainGlobals "dot" = some (some (.ref f6))) (l6 : K.lookup f6 = some ⟨oc6, od6, .func (PySem.W.fnOf "dot" "dot" (defArgs s_dot) (defBody s_dot) (defScope s_dot) .none kV6 dc6 pm6 an6 cd6 ct6), sl6⟩) (c6 : PySem.W.codeIn K cd6 "dot" = true) (k6 : PySem.W.keepIn K (.ref f6) = true)
    (a7 : PySem.W.nsIn K mainGlobals "combined" = some (some (.ref f7))) (l7 : K.lookup f7 = some ⟨oc7, od7, .func (PySem.W.fnOf "combined" "combined" (defArgs s_combined) (defBody s_combined) (defScope s_combined) .none kV7 dc7 pm7 an7 cd7 ct7), sl7⟩) (c7 : PySem.W.codeIn K cd7 "combined" = true) (k7 : PySem.W.keepIn K (.ref f7) = true)
    (a8 : PySem.W.nsIn K mainGlobals "is_lawful" = some (some (.ref f8))) (l8 : K.lookup f8 = some ⟨oc8, od8, .func (PySem.W.fnOf "is_lawful" "is_lawful" (defArgs s_is_lawful) (defBody s_is_lawful) (defScope s_is_lawful) .none kV8 dc8 pm8 an8 cd8 ct8), sl8⟩) (c8 : PySem.W.codeIn K cd8 "is_lawful" = true) (k8 : PySem.W.keepIn K (.ref f8) = true)
    (a9 : PySem.W.nsIn K mainGlobals "are_factors" = some (some (.ref f9))) (l9 : K.lookup f9 = some ⟨oc9, od9, .func (PySem.W.fnOf "are_factors" "are_factors" (defArgs s_are_factors) (defBody s_are_factors) (defScope s_are_factors) .none kV9 dc9 pm9 an9 cd9 ct9), sl9⟩) (c9 : PySem.W.codeIn K cd9 "are_factors" = true) (k9 : PySem.W.keepIn K (.ref f9) = true)
    (a10 : PySem.W.nsIn K mainGlobals "holds_down" = some (some (.ref f10))) (l10 : K.lookup f10 = some ⟨oc10, od10, .func (PySem.W.fnOf "holds_down" "holds_down" (defArgs s_holds_down) (defBody s_holds_down) (defScope s_holds_down) .none kV10 dc10 pm10 an10 cd10 ct10), sl10⟩) (c10 : PySem.W.codeIn K cd10 "holds_down" = true) (k10 : PySem.W.keepIn K (.ref f10) = true)
    (a11 : PySem.W.nsIn K mainGlobals "shows_best" = some (some (.ref f11))) (l11 : K.lookup f11 = some ⟨oc11, od11, .func (PySem.W.fnOf "shows_best" "shows_best" (defArgs s_shows_best) (defBody s_shows_best) (defScope s_shows_best) .none kV11 dc11 pm11 an11 cd11 ct11), sl11⟩) (c11 : PySem.W.codeIn K cd11 "shows_best" = true) (k11 : PySem.W.keepIn K (.ref f11) = true)
    (a12 : PySem.W.nsIn K mainGlobals "shows_none" = some (some (.ref f12))) (l12 : K.lookup f12 = some ⟨oc12, od12, .func (PySem.W.fnOf "shows_none" "shows_none" (defArgs s_shows_none) (defBody s_shows_none) (defScope s_shows_none) .none kV12 dc12 pm12 an12 cd12 ct12), sl12⟩) (c12 : PySem.W.codeIn K cd12 "shows_none" = true) (k12 : PySem.W.keepIn K (.ref f12) = true)
    (a13 : PySem.W.nsIn K mainGlobals "shows_endless" = some (some (.ref f13))) (l13 : K.lookup f13 = some ⟨oc13, od13, .func (PySem.W.fnOf "shows_endless" "shows_endless" (defArgs s_shows_endless) (defBody s_shows_endless) (defScope s_shows_endless) .none kV13 dc13 pm13 an13 cd13 ct13), sl13⟩) (c13 : PySem.W.codeIn K cd13 "shows_endless" = true) (k13 : PySem.W.keepIn K (.ref f13) = true)
    (a14 : PySem.W.nsIn K mainGlobals "_law_mixed" = some (some (.ref f14))) (l14 : K.lookup f14 = some ⟨oc14, od14, .func (PySem.W.fnOf "_law_mixed" "_law_mixed" (defArgs s_law_mixed) (defBody s_law_mixed) (defScope s_law_mixed) .none kV14 dc14 pm14 an14 cd14 ct14), sl14⟩) (c14 : PySem.W.codeIn K cd14 "_law_mixed" = true) (k14 : PySem.W.keepIn K (.ref f14) = true)
    (a15 : PySem.W.nsIn K mainGlobals "_law_rest" = some (some (.ref f15))) (l15 : K.lookup f15 = some ⟨oc15, od15, .func (PySem.W.fnOf "_law_rest" "_law_rest" (defArgs s_law_rest) (defBody s_law_rest) (defScope s_law_rest) .none kV15 dc15 pm15 an15 cd15 ct15), sl15⟩) (c15 : PySem.W.codeIn K cd15 "_law_rest" = true) (k15 : PySem.W.keepIn K (.ref f15) = true)
    (a16 : PySem.W.nsIn K mainGlobals "_law_pool" = some (some (.ref f16))) (l16 : K.lookup f16 = some ⟨oc16, od16, .func (PySem.W.fnOf "_law_pool" "_law_pool" (defArgs s_law_pool) (defBody s_law_pool) (defScope s_law_pool) .none kV16 dc16 pm16 an16 cd16 ct16), sl16⟩) (c16 : PySem.W.codeIn K cd16 "_law_pool" = true) (k16 : PySem.W.keepIn K (.ref f16) = true)
    (a17 : PySem.W.nsIn K mainGlobals "_law_next" = some (some (.ref f17))) (l17 : K.lookup f17 = some ⟨oc17, od17, .func (PySem.W.fnOf "_law_next" "_law_next" (defArgs s_law_next) (defBody s_law_next) (defScope s_law_next) .none kV17 dc17 pm17 an17 cd17 ct17), sl17⟩) (c17 : PySem.W.codeIn K cd17 "_law_next" = true) (k17 : PySem.W.keepIn K (.ref f17) = true)
    (a18 : PySem.W.nsIn K mainGlobals "_law_draw" = some (some (.ref f18))) (l18 : K.lookup f18 = some ⟨oc18, od18, .func (PySem.W.fnOf "_law_draw" "_law_draw" (defArgs s_law_draw) (defBody s_law_draw) (defScope s_law_draw) .none kV18 dc18 pm18 an18 cd18 ct18), sl18⟩) (c18 : PySem.W.codeIn K cd18 "_law_draw" = true) (k18 : PySem.W.keepIn K (.ref f18) = true)
    (a19 : PySem.W.nsIn K mainGlobals "_law_pick" = some (some (.ref f19))) (l19 : K.lookup f19 = some ⟨oc19, od19, .func (PySem.W.fnOf "_law_pick" "_law_pick" (defArgs s_law_pick) (defBody s_law_pick) (defScope s_law_pick) .none kV19 dc19 pm19 an19 cd19 ct19), sl19⟩) (c19 : PySem.W.codeIn K cd19 "_law_pick" = true) (k19 : PySem.W.keepIn K (.ref f19) = true)
    (a20 : PySem.W.nsIn K mainGlobals "_law_same" = some (some (.ref f20))) (l20 : K.lookup f20 = some ⟨oc20, od20, .func (PySem.W.fnOf "_law_same" "_law_same" (defArgs s_law_same) (defBody s_law_same) (defScope s_law_same) .none kV20 dc20 pm20 an20 cd20 ct20), sl20⟩) (c20 : PySem.W.codeIn K cd20 "_law_same" = true) (k20 : PySem.W.keepIn K (.ref f20) = true)
    (a21 : PySem.W.nsIn K mainGlobals "_law_gcd" = some (some (.ref f21))) (l21 : K.lookup f21 = some ⟨oc21, od21, .func (PySem.W.fnOf "_law_gcd" "_law_gcd" (defArgs s_law_gcd) (defBody s_law_gcd) (defScope s_law_gcd) .none kV21 dc21 pm21 an21 cd21 ct21), sl21⟩) (c21 : PySem.W.codeIn K cd21 "_law_gcd" = true) (k21 : PySem.W.keepIn K (.ref f21) = true)
    (a22 : PySem.W.nsIn K mainGlobals "_law_ratio" = some (some (.ref f22))) (l22 : K.lookup f22 = some ⟨oc22, od22, .func (PySem.W.fnOf "_law_ratio" "_law_ratio" (defArgs s_law_ratio) (defBody s_law_ratio) (defScope s_law_ratio) .none kV22 dc22 pm22 an22 cd22 ct22), sl22⟩) (c22 : PySem.W.codeIn K cd22 "_law_ratio" = true) (k22 : PySem.W.keepIn K (.ref f22) = true)
    (a23 : PySem.W.nsIn K mainGlobals "_law_add" = some (some (.ref f23))) (l23 : K.lookup f23 = some ⟨oc23, od23, .func (PySem.W.fnOf "_law_add" "_law_add" (defArgs s_law_add) (defBody s_law_add) (defScope s_law_add) .none kV23 dc23 pm23 an23 cd23 ct23), sl23⟩) (c23 : PySem.W.codeIn K cd23 "_law_add" = true) (k23 : PySem.W.keepIn K (.ref f23) = true)
    (a24 : PySem.W.nsIn K mainGlobals "_law_sub" = some (some (.ref f24))) (l24 : K.lookup f24 = some ⟨oc24, od24, .func (PySem.W.fnOf "_law_sub" "_law_sub" (defArgs s_law_sub) (defBody s_law_sub) (defScope s_law_sub) .none kV24 dc24 pm24 an24 cd24 ct24), sl24⟩) (c24 : PySem.W.codeIn K cd24 "_law_sub" = true) (k24 : PySem.W.keepIn K (.ref f24) = true)
    (a25 : PySem.W.nsIn K mainGlobals "_law_mul" = some (some (.ref f25))) (l25 : K.lookup f25 = some ⟨oc25, od25, .func (PySem.W.fnOf "_law_mul" "_law_mul" (defArgs s_law_mul) (defBody s_law_mul) (defScope s_law_mul) .none kV25 dc25 pm25 an25 cd25 ct25), sl25⟩) (c25 : PySem.W.codeIn K cd25 "_law_mul" = true) (k25 : PySem.W.keepIn K (.ref f25) = true)
    (a26 : PySem.W.nsIn K mainGlobals "_law_div" = some (some (.ref f26))) (l26 : K.lookup f26 = some ⟨oc26, od26, .func (PySem.W.fnOf "_law_div" "_law_div" (defArgs s_law_div) (defBody s_law_div) (defScope s_law_div) .none kV26 dc26 pm26 an26 cd26 ct26), sl26⟩) (c26 : PySem.W.codeIn K cd26 "_law_div" = true) (k26 : PySem.W.keepIn K (.ref f26) = true)
    (a27 : PySem.W.nsIn K mainGlobals "_law_dot" = some (some (.ref f27))) (l27 : K.lookup f27 = some ⟨oc27, od27, .func (PySem.W.fnOf "_law_dot" "_law_dot" (defArgs s_law_dot) (defBody s_law_dot) (defScope s_law_dot) .none kV27 dc27 pm27 an27 cd27 ct27), sl27⟩) (c27 : PySem.W.codeIn K cd27 "_law_dot" = true) (k27 : PySem.W.keepIn K (.ref f27) = true)
    (a28 : PySem.W.nsIn K mainGlobals "_law_fraction" = some (some (.ref f28))) (l28 : K.lookup f28 = some ⟨oc28, od28, .func (PySem.W.fnOf "_law_fraction" "_law_fraction" (defArgs s_law_fraction) (defBody s_law_fraction) (defScope s_law_fraction) .none kV28 dc28 pm28 an28 cd28 ct28), sl28⟩) (c28 : PySem.W.codeIn K cd28 "_law_fraction" = true) (k28 : PySem.W.keepIn K (.ref f28) = true)
    (a29 : PySem.W.nsIn K mainGlobals "_law_row" = some (some (.ref f29))) (l29 : K.lookup f29 = some ⟨oc29, od29, .func (PySem.W.fnOf "_law_row" "_law_row" (defArgs s_law_row) (defBody s_law_row) (defScope s_law_row) .none kV29 dc29 pm29 an29 cd29 ct29), sl29⟩) (c29 : PySem.W.codeIn K cd29 "_law_row" = true) (k29 : PySem.W.keepIn K (.ref f29) = true)
    (a30 : PySem.W.nsIn K mainGlobals "_law_minus" = some (some (.ref f30))) (l30 : K.lookup f30 = some ⟨oc30, od30, .func (PySem.W.fnOf "_law_minus" "_law_minus" (defArgs s_law_minus) (defBody s_law_minus) (defScope s_law_minus) .none kV30 dc30 pm30 an30 cd30 ct30), sl30⟩) (c30 : PySem.W.codeIn K cd30 "_law_minus" = true) (k30 : PySem.W.keepIn K (.ref f30) = true)
    (a31 : PySem.W.nsIn K mainGlobals "_law_minus" = some (some (.ref f31))) (l31 : K.lookup f31 = some ⟨oc31, od31, .func (PySem.W.fnOf "_law_minus" "_law_minus" (defArgs s_law_minus) (defBody s_law_minus) (defScope s_law_minus) .none kV31 dc31 pm31 an31 cd31 ct31), sl31⟩) (c31 : PySem.W.codeIn K cd31 "_law_minus" = true) (k31 : PySem.W.keepIn K (.ref f31) = true)
    (a32 : PySem.W.nsIn K mainGlobals "_law_combined" = some (some (.ref f32))) (l32 : K.lookup f32 = some ⟨oc32, od32, .func (PySem.W.fnOf "_law_combined" "_law_combined" (defArgs s_law_combined) (defBody s_law_combined) (defScope s_law_combined) .none kV32 dc32 pm32 an32 cd32 ct32), sl32⟩) (c32 : PySem.W.codeIn K cd32 "_law_combined" = true) (k32 : PySem.W.keepIn K (.ref f32) = true)
    (a33 : PySem.W.nsIn K mainGlobals "_law_combined" = some (some (.ref f33))) (l33 : K.lookup f33 = some ⟨oc33, od33, .func (PySem.W.fnOf "_law_combined" "_law_combined" (defArgs s_law_combined) (defBody s_law_combined) (defScope s_law_combined) .none kV33 dc33 pm33 an33 cd33 ct33), sl33⟩) (c33 : PySem.W.codeIn K cd33 "_law_combined" = true) (k33 : PySem.W.keepIn K (.ref f33) = true)
    (a34 : PySem.W.nsIn K mainGlobals "_law_lawful" = some (some (.ref f34))) (l34 : K.lookup f34 = some ⟨oc34, od34, .func (PySem.W.fnOf "_law_lawful" "_law_lawful" (defArgs s_law_lawful) (defBody s_law_lawful) (defScope s_law_lawful) .none kV34 dc34 pm34 an34 cd34 ct34), sl34⟩) (c34 : PySem.W.codeIn K cd34 "_law_lawful" = true) (k34 : PySem.W.keepIn K (.ref f34) = true)
    (a35 : PySem.W.nsIn K mainGlobals "_law_holds" = some (some (.ref f35))) (l35 : K.lookup f35 = some ⟨oc35, od35, .func (PySem.W.fnOf "_law_holds" "_law_holds" (defArgs s_law_holds) (defBody s_law_holds) (defScope s_law_holds) .none kV35 dc35 pm35 an35 cd35 ct35), sl35⟩) (c35 : PySem.W.codeIn K cd35 "_law_holds" = true) (k35 : PySem.W.keepIn K (.ref f35) = true)
    (a36 : PySem.W.nsIn K mainGlobals "_law_value" = some (some (.ref f36))) (l36 : K.lookup f36 = some ⟨oc36, od36, .func (PySem.W.fnOf "_law_value" "_law_value" (defArgs s_law_value) (defBody s_law_value) (defScope s_law_value) .none kV36 dc36 pm36 an36 cd36 ct36), sl36⟩) (c36 : PySem.W.codeIn K cd36 "_law_value" = true) (k36 : PySem.W.keepIn K (.ref f36) = true)
    (a37 : PySem.W.nsIn K mainGlobals "_law_copied" = some (some (.ref f37))) (l37 : K.lookup f37 = some ⟨oc37, od37, .func (PySem.W.fnOf "_law_copied" "_law_copied" (defArgs s_law_copied) (defBody s_law_copied) (defScope s_law_copied) .none kV37 dc37 pm37 an37 cd37 ct37), sl37⟩) (c37 : PySem.W.codeIn K cd37 "_law_copied" = true) (k37 : PySem.W.keepIn K (.ref f37) = true)
    (a38 : PySem.W.nsIn K mainGlobals "_law_positive" = some (some (.ref f38))) (l38 : K.lookup f38 = some ⟨oc38, od38, .func (PySem.W.fnOf "_law_positive" "_law_positive" (defArgs s_law_positive) (defBody s_law_positive) (defScope s_law_positive) .none kV38 dc38 pm38 an38 cd38 ct38), sl38⟩) (c38 : PySem.W.codeIn K cd38 "_law_positive" = true) (k38 : PySem.W.keepIn K (.ref f38) = true)
    (a39 : PySem.W.nsIn K mainGlobals "_law_made_best" = some (some (.ref f39))) (l39 : K.lookup f39 = some ⟨oc39, od39, .func (PySem.W.fnOf "_law_made_best" "_law_made_best" (defArgs s_law_made_best) (defBody s_law_made_best) (defScope s_law_made_best) .none kV39 dc39 pm39 an39 cd39 ct39), sl39⟩) (c39 : PySem.W.codeIn K cd39 "_law_made_best" = true) (k39 : PySem.W.keepIn K (.ref f39) = true)
    (a40 : PySem.W.nsIn K mainGlobals "_law_made_none" = some (some (.ref f40))) (l40 : K.lookup f40 = some ⟨oc40, od40, .func (PySem.W.fnOf "_law_made_none" "_law_made_none" (defArgs s_law_made_none) (defBody s_law_made_none) (defScope s_law_made_none) .none kV40 dc40 pm40 an40 cd40 ct40), sl40⟩) (c40 : PySem.W.codeIn K cd40 "_law_made_none" = true) (k40 : PySem.W.keepIn K (.ref f40) = true)
    (a41 : PySem.W.nsIn K mainGlobals "_law_made_endless" = some (some (.ref f41))) (l41 : K.lookup f41 = some ⟨oc41, od41, .func (PySem.W.fnOf "_law_made_endless" "_law_made_endless" (defArgs s_law_made_endless) (defBody s_law_made_endless) (defScope s_law_made_endless) .none kV41 dc41 pm41 an41 cd41 ct41), sl41⟩) (c41 : PySem.W.codeIn K cd41 "_law_made_endless" = true) (k41 : PySem.W.keepIn K (.ref f41) = true)
    (a42 : PySem.W.nsIn K mainGlobals "_law_bent" = some (some (.ref f42))) (l42 : K.lookup f42 = some ⟨oc42, od42, .func (PySem.W.fnOf "_law_bent" "_law_bent" (defArgs s_law_bent) (defBody s_law_bent) (defScope s_law_bent) .none kV42 dc42 pm42 an42 cd42 ct42), sl42⟩) (c42 : PySem.W.codeIn K cd42 "_law_bent" = true) (k42 : PySem.W.keepIn K (.ref f42) = true)
    (a43 : PySem.W.nsIn K mainGlobals "_law_due" = some (some (.ref f43))) (l43 : K.lookup f43 = some ⟨oc43, od43, .func (PySem.W.fnOf "_law_due" "_law_due" (defArgs s_law_due) (defBody s_law_due) (defScope s_law_due) .none kV43 dc43 pm43 an43 cd43 ct43), sl43⟩) (c43 : PySem.W.codeIn K cd43 "_law_due" = true) (k43 : PySem.W.keepIn K (.ref f43) = true)
    (a44 : PySem.W.nsIn K mainGlobals "law" = some (some (.ref f44))) (l44 : K.lookup f44 = some ⟨oc44, od44, .func (PySem.W.fnOf "law" "law" (defArgs s_law) (defBody s_law) (defScope s_law) .none kV44 dc44 pm44 an44 cd44 ct44), sl44⟩) (c44 : PySem.W.codeIn K cd44 "law" = true) (k44 : PySem.W.keepIn K (.ref f44) = true)
    (z_ZERO : PySem.W.nsIn K mainGlobals "ZERO" = some (some (.ref q_ZERO))) (y_ZERO : K.lookup q_ZERO = some ⟨.type "tuple", od_ZERO, .seq #[.int 0 t1_ZERO, .int 1 t2_ZERO] n_ZERO, sl_ZERO⟩)
    (z_gcd : PySem.W.nsIn K mainGlobals "gcd" = some (some (.builtin "math.gcd")))
    (b_int : PySem.W.nsIn K mainGlobals "int" = some none)
    (b_len : PySem.W.nsIn K mainGlobals "len" = some none)
    (b_range : PySem.W.nsIn K mainGlobals "range" = some none)
    (b_abs : PySem.W.nsIn K mainGlobals "abs" = some none)
    (b_str : PySem.W.nsIn K mainGlobals "str" = some none)
    (b_isinstance : PySem.W.nsIn K mainGlobals "isinstance" = some none)
    (b_all : PySem.W.nsIn K mainGlobals "all" = some none)
    (b_zip : PySem.W.nsIn K mainGlobals "zip" = some none)
    (b_tuple : PySem.W.nsIn K mainGlobals "tuple" = some none)
    (b_dict : PySem.W.nsIn K mainGlobals "dict" = some none)
    (b_list : PySem.W.nsIn K mainGlobals "list" = some none)
    (b_bool : PySem.W.nsIn K mainGlobals "bool" = some none)
    : ∃ fd : FuncData, (∀ (s : Shared) (v : Value), BindsTo s fd ⟨[v], []⟩ [("script", v)]) ∧ ∀ base : Heap, K.In base → base.Ns mainGlobals mg → FnOk l.prog w K mg base CX0 8 fa fd ["script"] (spP K R_law) := by
  have e := hfa.symm.trans (PySem.W.mg_of X G a44)
  cases e
  have F_ratio := fun_mk (st := s_ratio) l1 c1 k1
  have b_ratio := F_ratio.binds (ps := ["p", "q"]) fun _ _ _ _ _ _ us hl => match us, hl with | [_, _], _ => rfl
  have F_added := fun_mk (st := s_added) l2 c2 k2
  have b_added := F_added.binds (ps := ["one", "other"]) fun _ _ _ _ _ _ us hl => match us, hl with | [_, _], _ => rfl
  have F_times := fun_mk (st := s_times) l3 c3 k3
  have b_times := F_times.binds (ps := ["one", "other"]) fun _ _ _ _ _ _ us hl => match us, hl with | [_, _], _ => rfl
  have F_sign := fun_mk (st := s_sign) l4 c4 k4
  have b_sign := F_sign.binds (ps := ["one"]) fun _ _ _ _ _ _ us hl => match us, hl with | [_], _ => rfl
  have F_below := fun_mk (st := s_below) l5 c5 k5
  have b_below := F_below.binds (ps := ["one", "other"]) fun _ _ _ _ _ _ us hl => match us, hl with | [_, _], _ => rfl
  have F_dot := fun_mk (st := s_dot) l6 c6 k6
  have b_dot := F_dot.binds (ps := ["row", "other"]) fun _ _ _ _ _ _ us hl => match us, hl with | [_, _], _ => rfl
  have F_combined := fun_mk (st := s_combined) l7 c7 k7
  have b_combined := F_combined.binds (ps := ["rows", "factors", "count"]) fun _ _ _ _ _ _ us hl => match us, hl with | [_, _, _], _ => rfl
  have F_is_lawful := fun_mk (st := s_is_lawful) l8 c8 k8
  have b_is_lawful := F_is_lawful.binds (ps := ["rows", "free", "x"]) fun _ _ _ _ _ _ us hl => match us, hl with | [_, _, _], _ => rfl
  have F_are_factors := fun_mk (st := s_are_factors) l9 c9 k9
  have b_are_factors := F_are_factors.binds (ps := ["rows", "y"]) fun _ _ _ _ _ _ us hl => match us, hl with | [_, _], _ => rfl
  have F_holds_down := fun_mk (st := s_holds_down) l10 c10 k10
  have b_holds_down := F_holds_down.binds (ps := ["goal", "rows", "free", "y"]) fun _ _ _ _ _ _ us hl => match us, hl with | [_, _, _, _], _ => rfl
  have F_shows_best := fun_mk (st := s_shows_best) l11 c11 k11
  have b_shows_best := F_shows_best.binds (ps := ["goal", "rows", "free", "x", "y"]) fun _ _ _ _ _ _ us hl => match us, hl with | [_, _, _, _, _], _ => rfl
  have F_shows_none := fun_mk (st := s_shows_none) l12 c12 k12
  have b_shows_none := F_shows_none.binds (ps := ["goal", "rows", "free", "y"]) fun _ _ _ _ _ _ us hl => match us, hl with | [_, _, _, _], _ => rfl
  have F_shows_endless := fun_mk (st := s_shows_endless) l13 c13 k13
  have b_shows_endless := F_shows_endless.binds (ps := ["goal", "rows", "free", "x", "r"]) fun _ _ _ _ _ _ us hl => match us, hl with | [_, _, _, _, _], _ => rfl
  have F_law_mixed := fun_mk (st := s_law_mixed) l14 c14 k14
  have b_law_mixed := F_law_mixed.binds (ps := ["number", "place"]) fun _ _ _ _ _ _ us hl => match us, hl with | [_, _], _ => rfl
  have F_law_rest := fun_mk (st := s_law_rest) l15 c15 k15
  have b_law_rest := F_law_rest.binds (ps := ["script", "place", "fills"]) fun _ _ _ _ _ _ us hl => match us, hl with | [_, _, _], _ => rfl
  have F_law_pool := fun_mk (st := s_law_pool) l16 c16 k16
  have b_law_pool := F_law_pool.binds (ps := ["script"]) fun _ _ _ _ _ _ us hl => match us, hl with | [_], _ => rfl
  have F_law_next := fun_mk (st := s_law_next) l17 c17 k17
  have b_law_next := F_law_next.binds (ps := ["pool"]) fun _ _ _ _ _ _ us hl => match us, hl with | [_], _ => rfl
  have F_law_draw := fun_mk (st := s_law_draw) l18 c18 k18
  have b_law_draw := F_law_draw.binds (ps := ["pool", "limit"]) fun _ _ _ _ _ _ us hl => match us, hl with | [_, _], _ => rfl
  have F_law_pick := fun_mk (st := s_law_pick) l19 c19 k19
  have b_law_pick := F_law_pick.binds (ps := ["pool", "options"]) fun _ _ _ _ _ _ us hl => match us, hl with | [_, _], _ => rfl
  have F_law_same := fun_mk (st := s_law_same) l20 c20 k20
  have b_law_same := F_law_same.binds (ps := ["answer", "due"]) fun _ _ _ _ _ _ us hl => match us, hl with | [_, _], _ => rfl
  have F_law_gcd := fun_mk (st := s_law_gcd) l21 c21 k21
  have b_law_gcd := F_law_gcd.binds (ps := ["one", "other"]) fun _ _ _ _ _ _ us hl => match us, hl with | [_, _], _ => rfl
  have F_law_ratio := fun_mk (st := s_law_ratio) l22 c22 k22
  have b_law_ratio := F_law_ratio.binds (ps := ["p", "q"]) fun _ _ _ _ _ _ us hl => match us, hl with | [_, _], _ => rfl
  have F_law_add := fun_mk (st := s_law_add) l23 c23 k23
  have b_law_add := F_law_add.binds (ps := ["one", "other"]) fun _ _ _ _ _ _ us hl => match us, hl with | [_, _], _ => rfl
  have F_law_sub := fun_mk (st := s_law_sub) l24 c24 k24
  have b_law_sub := F_law_sub.binds (ps := ["one", "other"]) fun _ _ _ _ _ _ us hl => match us, hl with | [_, _], _ => rfl
  have F_law_mul := fun_mk (st := s_law_mul) l25 c25 k25
  have b_law_mul := F_law_mul.binds (ps := ["one", "other"]) fun _ _ _ _ _ _ us hl => match us, hl with | [_, _], _ => rfl
  have F_law_div := fun_mk (st := s_law_div) l26 c26 k26
  have b_law_div := F_law_div.binds (ps := ["one", "other"]) fun _ _ _ _ _ _ us hl => match us, hl with | [_, _], _ => rfl
  have F_law_dot := fun_mk (st := s_law_dot) l27 c27 k27
  have b_law_dot := F_law_dot.binds (ps := ["row", "other"]) fun _ _ _ _ _ _ us hl => match us, hl with | [_, _], _ => rfl
  have F_law_fraction := fun_mk (st := s_law_fraction) l28 c28 k28
  have b_law_fraction := F_law_fraction.binds (ps := ["pool"]) fun _ _ _ _ _ _ us hl => match us, hl with | [_], _ => rfl
  have F_law_row := fun_mk (st := s_law_row) l29 c29 k29
  have b_law_row := F_law_row.binds (ps := ["pool", "count"]) fun _ _ _ _ _ _ us hl => match us, hl with | [_, _], _ => rfl
  have F_law_minus := fun_mk (st := s_law_minus) l30 c30 k30
  have b_law_minus := F_law_minus.binds (ps := ["row", "other", "factor"]) fun _ _ _ _ _ _ us hl => match us, hl with | [_, _, _], _ => rfl
  have F2_law_minus := fun_mk (st := s_law_minus) l31 c31 k31
  have b2_law_minus := F2_law_minus.binds (ps := ["row", "other", "factor"]) fun _ _ _ _ _ _ us hl => match us, hl with | [_, _, _], _ => rfl
  have F_law_combined := fun_mk (st := s_law_combined) l32 c32 k32
  have b_law_combined := F_law_combined.binds (ps := ["rows", "factors", "count"]) fun _ _ _ _ _ _ us hl => match us, hl with | [_, _, _], _ => rfl
  have F2_law_combined := fun_mk (st := s_law_combined) l33 c33 k33
  have b2_law_combined := F2_law_combined.binds (ps := ["rows", "factors", "count"]) fun _ _ _ _ _ _ us hl => match us, hl with | [_, _, _], _ => rfl
  have F_law_lawful := fun_mk (st := s_law_lawful) l34 c34 k34
  have b_law_lawful := F_law_lawful.binds (ps := ["rows", "free", "x"]) fun _ _ _ _ _ _ us hl => match us, hl with | [_, _, _], _ => rfl
  have F_law_holds := fun_mk (st := s_law_holds) l35 c35 k35
  have b_law_holds := F_law_holds.binds (ps := ["goal", "rows", "free", "y"]) fun _ _ _ _ _ _ us hl => match us, hl with | [_, _, _, _], _ => rfl
  have F_law_value := fun_mk (st := s_law_value) l36 c36 k36
  have b_law_value := F_law_value.binds (ps := ["rows", "y"]) fun _ _ _ _ _ _ us hl => match us, hl with | [_, _], _ => rfl
  have F_law_copied := fun_mk (st := s_law_copied) l37 c37 k37
  have b_law_copied := F_law_copied.binds (ps := ["goal", "rows", "free"]) fun _ _ _ _ _ _ us hl => match us, hl with | [_, _, _], _ => rfl
  have F_law_positive := fun_mk (st := s_law_positive) l38 c38 k38
  have b_law_positive := F_law_positive.binds (ps := ["pool"]) fun _ _ _ _ _ _ us hl => match us, hl with | [_], _ => rfl
  have F_law_made_best := fun_mk (st := s_law_made_best) l39 c39 k39
  have b_law_made_best := F_law_made_best.binds (ps := ["pool", "count", "many"]) fun _ _ _ _ _ _ us hl => match us, hl with | [_, _, _], _ => rfl
  have F_law_made_none := fun_mk (st := s_law_made_none) l40 c40 k40
  have b_law_made_none := F_law_made_none.binds (ps := ["pool", "count", "many"]) fun _ _ _ _ _ _ us hl => match us, hl with | [_, _, _], _ => rfl
  have F_law_made_endless := fun_mk (st := s_law_made_endless) l41 c41 k41
  have b_law_made_endless := F_law_made_endless.binds (ps := ["pool", "count", "many"]) fun _ _ _ _ _ _ us hl => match us, hl with | [_, _, _], _ => rfl
  have F_law_bent := fun_mk (st := s_law_bent) l42 c42 k42
  have b_law_bent := F_law_bent.binds (ps := ["pool", "made"]) fun _ _ _ _ _ _ us hl => match us, hl with | [_, _], _ => rfl
  have F_law_due := fun_mk (st := s_law_due) l43 c43 k43
  have b_law_due := F_law_due.binds (ps := ["word", "made"]) fun _ _ _ _ _ _ us hl => match us, hl with | [_, _], _ => rfl
  have F_law := fun_mk (st := s_law) l44 c44 k44
  have b_law := F_law.binds (ps := ["script"]) fun _ _ _ _ _ _ us hl => match us, hl with | [_], _ => rfl
  have C : Bs2 mg := { b_int := PySem.W.mg_none_of X G b_int, b_len := PySem.W.mg_none_of X G b_len, b_range := PySem.W.mg_none_of X G b_range, b_abs := PySem.W.mg_none_of X G b_abs, b_str := PySem.W.mg_none_of X G b_str, b_isinstance := PySem.W.mg_none_of X G b_isinstance, b_all := PySem.W.mg_none_of X G b_all, b_zip := PySem.W.mg_none_of X G b_zip, b_tuple := PySem.W.mg_none_of X G b_tuple, b_dict := PySem.W.mg_none_of X G b_dict, b_list := PySem.W.mg_none_of X G b_list, b_bool := PySem.W.mg_none_of X G b_bool, k_gcd := PySem.W.mg_of X G z_gcd }
  refine ⟨PySem.W.fnOf "law" "law" (defArgs s_law) (defBody s_law) (defScope s_law) .none kV44 dc44 pm44 an44 cd44 ct44, fun s v => .of_eq rfl, fun base _ _ => ?_⟩
  have X0 := X
  have gZ_ZERO : ∀ {X : Cx} {N : List Str} {sc : Scope} {k : Nat}, XIs X l.prog w K mg base N sc k → sc.names.lookup ("ZERO" : Str) = some .globalImplicit → Gc X "ZERO" (.nd .tup [.int 0, .int 1]) := fun hX h => XIs.gcQ (PySem.W.mg_of X0 G z_ZERO) y_ZERO (by decide) hX h
  have c_ratio : CaP l.prog w K mg base "ratio" 2 R_ratQ := ⟨mo_ratQ, _, _, _, PySem.W.mg_of X G a1, k1, b_ratio, ok_ratio C F_ratio⟩
  have c_added : CaP l.prog w K mg base "added" 3 R_add := ⟨mo_op _ _, _, _, _, PySem.W.mg_of X G a2, k2, b_added, ok_added c_ratio F_added⟩
  have c_times : CaP l.prog w K mg base "times" 3 R_mul := ⟨mo_op _ _, _, _, _, PySem.W.mg_of X G a3, k3, b_times, ok_times c_ratio F_times⟩
  have c_sign : CaP l.prog w K mg base "sign" 1 R_sign := ⟨mo_sign, _, _, _, PySem.W.mg_of X G a4, k4, b_sign, ok_sign F_sign⟩
  have c_below : CaP l.prog w K mg base "below" 1 R_below := ⟨mo_below, _, _, _, PySem.W.mg_of X G a5, k5, b_below, ok_below F_below⟩
  have c_dot : CaP l.prog w K mg base "dot" 4 R_dot := ⟨mo_dot, _, _, _, PySem.W.mg_of X G a6, k6, b_dot, ok_dot C gZ_ZERO c_added c_times F_dot⟩
  have c_combined : CaP l.prog w K mg base "combined" 4 R_comb := ⟨mo_comb, _, _, _, PySem.W.mg_of X G a7, k7, b_combined, ok_combined C gZ_ZERO c_added c_times F_combined⟩
  have c_is_lawful : CaP l.prog w K mg base "is_lawful" 5 R_islaw := ⟨mo_islaw, _, _, _, PySem.W.mg_of X G a8, k8, b_is_lawful, ok_is_lawful C c_dot c_sign c_below F_is_lawful⟩
  have c_are_factors : CaP l.prog w K mg base "are_factors" 2 R_fac := ⟨mo_fac, _, _, _, PySem.W.mg_of X G a9, k9, b_are_factors, ok_are_factors C c_sign F_are_factors⟩
  have c_holds_down : CaP l.prog w K mg base "holds_down" 5 R_hd := ⟨mo_hd, _, _, _, PySem.W.mg_of X G a10, k10, b_holds_down, ok_holds_down C c_combined c_below F_holds_down⟩
  have c_shows_best : CaP l.prog w K mg base "shows_best" 6 R_best := ⟨mo_best, _, _, _, PySem.W.mg_of X G a11, k11, b_shows_best, ok_shows_best C c_is_lawful c_are_factors c_holds_down c_dot F_shows_best⟩
  have c_shows_none : CaP l.prog w K mg base "shows_none" 6 R_none := ⟨mo_none, _, _, _, PySem.W.mg_of X G a12, k12, b_shows_none, ok_shows_none C gZ_ZERO c_sign c_are_factors c_holds_down c_dot F_shows_none⟩
  have c_shows_endless : CaP l.prog w K mg base "shows_endless" 6 R_end := ⟨mo_end, _, _, _, PySem.W.mg_of X G a13, k13, b_shows_endless, ok_shows_endless C c_is_lawful c_sign c_dot F_shows_endless⟩
  have c_law_mixed : CaP l.prog w K mg base "_law_mixed" 1 R_mixed := ⟨mo_mixed, _, _, _, PySem.W.mg_of X G a14, k14, b_law_mixed, ok_law_mixed C.toBs F_law_mixed⟩
  have c_law_rest : CaP l.prog w K mg base "_law_rest" 2 R_rest := ⟨mo_rest, _, _, _, PySem.W.mg_of X G a15, k15, b_law_rest, ok_law_rest C.toBs c_law_mixed F_law_rest⟩
  have c_law_pool : CaP l.prog w K mg base "_law_pool" 3 R_pool := ⟨mo_pool, _, _, _, PySem.W.mg_of X G a16, k16, b_law_pool, ok_law_pool C.toBs c_law_rest F_law_pool⟩
  have c_law_next : CaC l.prog w K mg base "_law_next" 3 R_next := ⟨mo_next, _, _, _, PySem.W.mg_of X G a17, k17, b_law_next, ok_law_next C.toBs c_law_rest F_law_next⟩
  have c_law_draw : CaC l.prog w K mg base "_law_draw" 3 R_draw := ⟨mo_draw, _, _, _, PySem.W.mg_of X G a18, k18, b_law_draw, ok_law_draw C.toBs c_law_rest F_law_draw⟩
  have c_law_pick : CaC l.prog w K mg base "_law_pick" 4 R_pick := ⟨mo_pick, _, _, _, PySem.W.mg_of X G a19, k19, b_law_pick, ok_law_pick C.toBs c_law_draw F_law_pick⟩
  have o_law_same : ∀ n, FnOk l.prog w K mg base CX0 n f20 _ ["answer", "due"] (spP K (R_same n)) := fun n => by
    induction n with
    | zero => exact fn_vac fun ds post hh => (by obtain ⟨_, _, _, z, _⟩ := hh; exact z)
    | succ n ih => exact step_same n C ⟨mo_same n, _, _, _, PySem.W.mg_of X G a20, k20, b_law_same, ih⟩ F_law_same
  have c_law_same : CaP l.prog w K mg base "_law_same" 6 (R_same 6) := ⟨mo_same 6, _, _, _, PySem.W.mg_of X G a20, k20, b_law_same, o_law_same 6⟩
  have c_law_gcd : CaP l.prog w K mg base "_law_gcd" 1 R_gcd := ⟨mo_gcd, _, _, _, PySem.W.mg_of X G a21, k21, b_law_gcd, ok_law_gcd C F_law_gcd⟩
  have c_law_ratio : CaP l.prog w K mg base "_law_ratio" 2 R_ratQ := ⟨mo_ratQ, _, _, _, PySem.W.mg_of X G a22, k22, b_law_ratio, ok_law_ratio C c_law_gcd F_law_ratio⟩
  have c_law_add : CaP l.prog w K mg base "_law_add" 3 R_add := ⟨mo_op _ _, _, _, _, PySem.W.mg_of X G a23, k23, b_law_add, ok_law_add c_law_ratio F_law_add⟩
  have c_law_sub : CaP l.prog w K mg base "_law_sub" 3 R_less := ⟨mo_op _ _, _, _, _, PySem.W.mg_of X G a24, k24, b_law_sub, ok_law_sub c_law_ratio F_law_sub⟩
  have c_law_mul : CaP l.prog w K mg base "_law_mul" 3 R_mul := ⟨mo_op _ _, _, _, _, PySem.W.mg_of X G a25, k25, b_law_mul, ok_law_mul c_law_ratio F_law_mul⟩
  have c_law_div : CaP l.prog w K mg base "_law_div" 3 R_over := ⟨mo_op _ _, _, _, _, PySem.W.mg_of X G a26, k26, b_law_div, ok_law_div c_law_ratio F_law_div⟩
  have c_law_dot : CaP l.prog w K mg base "_law_dot" 4 R_dot := ⟨mo_dot, _, _, _, PySem.W.mg_of X G a27, k27, b_law_dot, ok_law_dot C c_law_add c_law_mul F_law_dot⟩
  have c_law_fraction : CaC l.prog w K mg base "_law_fraction" 4 R_fraction := ⟨mo_fraction, _, _, _, PySem.W.mg_of X G a28, k28, b_law_fraction, ok_law_fraction C c_law_draw c_law_ratio F_law_fraction⟩
  have c_law_row : CaC l.prog w K mg base "_law_row" 5 R_row := ⟨mo_row, _, _, _, PySem.W.mg_of X G a29, k29, b_law_row, ok_law_row C c_law_fraction F_law_row⟩
  have c_law_minus : CaP l.prog w K mg base "_law_minus" 4 R_minus := ⟨mo_minus, _, _, _, PySem.W.mg_of X G a30, k30, b_law_minus, ok_law_minus C c_law_sub c_law_mul F_law_minus⟩
  have c2_law_minus : CaC l.prog w K mg base "_law_minus" 4 R_minusC := ⟨mo_minusC, _, _, _, PySem.W.mg_of X G a31, k31, b2_law_minus, ok_law_minusC C c_law_sub c_law_mul F2_law_minus⟩
  have c_law_combined : CaP l.prog w K mg base "_law_combined" 5 R_comb := ⟨mo_comb, _, _, _, PySem.W.mg_of X G a32, k32, b_law_combined, ok_law_combined C c_law_minus c_law_sub F_law_combined⟩
  have c2_law_combined : CaP l.prog w K mg base "_law_combined" 5 R_combO := ⟨mo_combO, _, _, _, PySem.W.mg_of X G a33, k33, b2_law_combined, ok_law_combinedO C c2_law_minus c_law_sub F2_law_combined⟩
  have c_law_lawful : CaP l.prog w K mg base "_law_lawful" 5 R_llaw := ⟨mo_llaw, _, _, _, PySem.W.mg_of X G a34, k34, b_law_lawful, ok_law_lawful C c_law_dot c_law_sub F_law_lawful⟩
  have c_law_holds : CaP l.prog w K mg base "_law_holds" 6 R_lhol := ⟨mo_lhol, _, _, _, PySem.W.mg_of X G a35, k35, b_law_holds, ok_law_holds C c_law_combined c_law_sub F_law_holds⟩
  have c_law_value : CaP l.prog w K mg base "_law_value" 5 R_val := ⟨mo_val, _, _, _, PySem.W.mg_of X G a36, k36, b_law_value, ok_law_value C c_law_dot F_law_value⟩
  have c_law_copied : CaP l.prog w K mg base "_law_copied" 1 R_copied := ⟨mo_copied, _, _, _, PySem.W.mg_of X G a37, k37, b_law_copied, ok_law_copied C F_law_copied⟩
  have c_law_positive : CaC l.prog w K mg base "_law_positive" 4 R_pos := ⟨mo_pos, _, _, _, PySem.W.mg_of X G a38, k38, b_law_positive, ok_law_positive C c_law_draw c_law_ratio F_law_positive⟩
  have c_law_made_best : CaC l.prog w K mg base "_law_made_best" 6 R_mbest := ⟨mo_mbest, _, _, _, PySem.W.mg_of X G a39, k39, b_law_made_best, ok_law_made_best C c_law_row c_law_draw c_law_pick c_law_fraction c_law_positive c2_law_combined c_law_sub c_law_add c_law_dot F_law_made_best⟩
  have c_law_made_none : CaC l.prog w K mg base "_law_made_none" 6 R_mnone := ⟨mo_mnone, _, _, _, PySem.W.mg_of X G a40, k40, b_law_made_none, ok_law_made_none C c_law_row c_law_draw c_law_pick c_law_fraction c_law_positive c_law_combined c_law_sub c_law_add c_law_value F_law_made_none⟩
  have c_law_made_endless : CaC l.prog w K mg base "_law_made_endless" 6 R_mend := ⟨mo_mend, _, _, _, PySem.W.mg_of X G a41, k41, b_law_made_endless, ok_law_made_endless C c_law_row c_law_draw c_law_pick c_law_fraction c_law_positive c_law_sub c_law_add c_law_div c_law_dot F_law_made_endless⟩
  have c_law_bent : CaC l.prog w K mg base "_law_bent" 5 R_bent := ⟨mo_bent, _, _, _, PySem.W.mg_of X G a42, k42, b_law_bent, ok_law_bent C c_law_draw c_law_pick c_law_mul c_law_add F_law_bent⟩
  have c_law_due : CaP l.prog w K mg base "_law_due" 7 R_due := ⟨mo_due, _, _, _, PySem.W.mg_of X G a43, k43, b_law_due, ok_law_due C c_law_holds c_law_value c_law_lawful c_law_dot F_law_due⟩
  exact ok_law C c_law_pool c_law_next c_law_draw c_law_made_best c_law_made_none c_law_made_endless c_law_due c_law_bent c_law_copied c_law_same c_shows_best c_shows_none c_shows_endless F_law
end W
open PySem PySem.W PyProof.Rows
set_option maxHeartbeats 0
theorem PySem.Challenge.cw_networth_k05_papers_of_programs_judged_holds : PySem.Challenge.rw_networth_k05_papers_of_programs_judged.Holds := by
  w_on; o_law; k_head; (case hw => w_witness2)
  k_fill
  refine L2.walk_of (l := PySem.Challenge.rw_networth_k05_papers_of_programs_judged) (n := 63) (k := 8) (x := "script") (CX := fun _ => L2.CX0) (sp := fun w => DL.spP _ W.R_law) rfl (by decide) rfl ⟨rfl, by decide, by decide⟩ (fun w h Y => PySem.W.kIn_of Y) ?F (fun _ H a ns hl _ hS => W.law_sp hS hl) (fun _ _ _ _ _ h => h)
  case F =>
    intro w mg fa h KX G hmg
    refine' W.all_mk KX G hmg ?a1 ?l1 ?c1 ?k1 ?a2 ?l2 ?c2 ?k2 ?a3 ?l3 ?c3 ?k3 ?a4 ?l4 ?c4 ?k4 ?a5 ?l5 ?c5 ?k5 ?a6 ?l6 ?c6 ?k6 ?a7 ?l7 ?c7 ?k7 ?a8 ?l8 ?c8 ?k8 ?a9 ?l9 ?c9 ?k9 ?a10 ?l10 ?c10 ?k10 ?a11 ?l11 ?c11 ?k11 ?a12 ?l12 ?c12 ?k12 ?a13 ?l13 ?c13 ?k13 ?a14 ?l14 ?c14 ?k14 ?a15 ?l15 ?c15 ?k15 ?a16 ?l16 ?c16 ?k16 ?a17 ?l17 ?c17 ?k17 ?a18 ?l18 ?c18 ?k18 ?a19 ?l19 ?c19 ?k19 ?a20 ?l20 ?c20 ?k20 ?a21 ?l21 ?c21 ?k21 ?a22 ?l22 ?c22 ?k22 ?a23 ?l23 ?c23 ?k23 ?a24 ?l24 ?c24 ?k24 ?a25 ?l25 ?c25 ?k25 ?a26 ?l26 ?c26 ?k26 ?a27 ?l27 ?c27 ?k27 ?a28 ?l28 ?c28 ?k28 ?a29 ?l29 ?c29 ?k29 ?a30 ?l30 ?c30 ?k30 ?a31 ?l31 ?c31 ?k31 ?a32 ?l32 ?c32 ?k32 ?a33 ?l33 ?c33 ?k33 ?a34 ?l34 ?c34 ?k34 ?a35 ?l35 ?c35 ?k35 ?a36 ?l36 ?c36 ?k36 ?a37 ?l37 ?c37 ?k37 ?a38 ?l38 ?c38 ?k38 ?a39 ?l39 ?c39 ?k39 ?a40 ?l40 ?c40 ?k40 ?a41 ?l41 ?c41 ?k41 ?a42 ?l42 ?c42 ?k42 ?a43 ?l43 ?c43 ?k43 ?a44 ?l44 ?c44 ?k44 ?z_ZERO ?y_ZERO ?z_gcd ?b_int ?b_len ?b_range ?b_abs ?b_str ?b_isinstance ?b_all ?b_zip ?b_tuple ?b_dict ?b_list ?b_bool
    (case a1 => k_is)
    (case l1 => k_is)
    (case c1 => k_is)
    (case k1 => k_is)
    (case a2 => k_is)
    (case l2 => k_is)
    (case c2 => k_is)
    (case k2 => k_is)
    (case a3 => k_is)
    (case l3 => k_is)
    (case c3 => k_is)
    (case k3 => k_is)
    (case a4 => k_is)
    (case l4 => k_is)
    (case c4 => k_is)
    (case k4 => k_is)
    (case a5 => k_is)
    (case l5 => k_is)
    (case c5 => k_is)
    (case k5 => k_is)
    (case a6 => k_is)
    (case l6 => k_is)
    (case c6 => k_is)
    (case k6 => k_is)
    (case a7 => k_is)
    (case l7 => k_is)
    (case c7 => k_is)
    (case k7 => k_is)
    (case a8 => k_is)
    (case l8 => k_is)
    (case c8 => k_is)
    (case k8 => k_is)
    (case a9 => k_is)
    (case l9 => k_is)
    (case c9 => k_is)
    (case k9 => k_is)
    (case a10 => k_is)
    (case l10 => k_is)
    (case c10 => k_is)
    (case k10 => k_is)
    (case a11 => k_is)
    (case l11 => k_is)
    (case c11 => k_is)
    (case k11 => k_is)
    (case a12 => k_is)
    (case l12 => k_is)
    (case c12 => k_is)
    (case k12 => k_is)
    (case a13 => k_is)
    (case l13 => k_is)
    (case c13 => k_is)
    (case k13 => k_is)
    (case a14 => k_is)
    (case l14 => k_is)
    (case c14 => k_is)
    (case k14 => k_is)
    (case a15 => k_is)
    (case l15 => k_is)
    (case c15 => k_is)
    (case k15 => k_is)
    (case a16 => k_is)
    (case l16 => k_is)
    (case c16 => k_is)
    (case k16 => k_is)
    (case a17 => k_is)
    (case l17 => k_is)
    (case c17 => k_is)
    (case k17 => k_is)
    (case a18 => k_is)
    (case l18 => k_is)
    (case c18 => k_is)
    (case k18 => k_is)
    (case a19 => k_is)
    (case l19 => k_is)
    (case c19 => k_is)
    (case k19 => k_is)
    (case a20 => k_is)
    (case l20 => k_is)
    (case c20 => k_is)
    (case k20 => k_is)
    (case a21 => k_is)
    (case l21 => k_is)
    (case c21 => k_is)
    (case k21 => k_is)
    (case a22 => k_is)
    (case l22 => k_is)
    (case c22 => k_is)
    (case k22 => k_is)
    (case a23 => k_is)
    (case l23 => k_is)
    (case c23 => k_is)
    (case k23 => k_is)
    (case a24 => k_is)
    (case l24 => k_is)
    (case c24 => k_is)
    (case k24 => k_is)
    (case a25 => k_is)
    (case l25 => k_is)
    (case c25 => k_is)
    (case k25 => k_is)
    (case a26 => k_is)
    (case l26 => k_is)
    (case c26 => k_is)
    (case k26 => k_is)
    (case a27 => k_is)
    (case l27 => k_is)
    (case c27 => k_is)
    (case k27 => k_is)
    (case a28 => k_is)
    (case l28 => k_is)
    (case c28 => k_is)
    (case k28 => k_is)
    (case a29 => k_is)
    (case l29 => k_is)
    (case c29 => k_is)
    (case k29 => k_is)
    (case a30 => k_is)
    (case l30 => k_is)
    (case c30 => k_is)
    (case k30 => k_is)
    (case a31 => k_is)
    (case l31 => k_is)
    (case c31 => k_is)
    (case k31 => k_is)
    (case a32 => k_is)
    (case l32 => k_is)
    (case c32 => k_is)
    (case k32 => k_is)
    (case a33 => k_is)
    (case l33 => k_is)
    (case c33 => k_is)
    (case k33 => k_is)
    (case a34 => k_is)
    (case l34 => k_is)
    (case c34 => k_is)
    (case k34 => k_is)
    (case a35 => k_is)
    (case l35 => k_is)
    (case c35 => k_is)
    (case k35 => k_is)
    (case a36 => k_is)
    (case l36 => k_is)
    (case c36 => k_is)
    (case k36 => k_is)
    (case a37 => k_is)
    (case l37 => k_is)
    (case c37 => k_is)
    (case k37 => k_is)
    (case a38 => k_is)
    (case l38 => k_is)
    (case c38 => k_is)
    (case k38 => k_is)
    (case a39 => k_is)
    (case l39 => k_is)
    (case c39 => k_is)
    (case k39 => k_is)
    (case a40 => k_is)
    (case l40 => k_is)
    (case c40 => k_is)
    (case k40 => k_is)
    (case a41 => k_is)
    (case l41 => k_is)
    (case c41 => k_is)
    (case k41 => k_is)
    (case a42 => k_is)
    (case l42 => k_is)
    (case c42 => k_is)
    (case k42 => k_is)
    (case a43 => k_is)
    (case l43 => k_is)
    (case c43 => k_is)
    (case k43 => k_is)
    (case a44 => k_is)
    (case l44 => k_is)
    (case c44 => k_is)
    (case k44 => k_is)
    (case z_ZERO => k_is)
    (case y_ZERO => k_is)
    (case z_gcd => k_is)
    (case b_int => k_is)
    (case b_len => k_is)
    (case b_range => k_is)
    (case b_abs => k_is)
    (case b_str => k_is)
    (case b_isinstance => k_is)
    (case b_all => k_is)
    (case b_zip => k_is)
    (case b_tuple => k_is)
    (case b_dict => k_is)
    (case b_list => k_is)
    (case b_bool => k_is)
