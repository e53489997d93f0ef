import PyProof.Rows.All
import Wide.All
import OpenK.AllK
import Wide.FinOn
import HandS.ForMost
import HandS.Wide
import HandS.Gcd
import HandS.DictComp
import HandS.IsInst
import HandS.Finally
import HandS.TryOnly
import HandS.Text
import HandS.More
import KE.GoesEnumKw
import HandS.Style
import HandS.SetFor
import HandS.SortRule
import HandS.ExcInit
import HandS.ExcField
import HandS.ExcIs
import HandS.WordsExc
import HandS.TryMany
import KE.KExcSuper
import KE.KSuper
import HandS.ExcOwn
import HandS.StrMore
import HandS.Replace
import KE.KExcLine
import KE.KIntText
import KE.IntTextLaws
import KE.BitLaws
import PySem.Challenge.RW_networth_k82_sealed_texts
set_option Elab.async false
set_option linter.all false
set_option maxRecDepth 100000
set_option maxHeartbeats 4000000
/-! DL: data in place of heaps. A def's walk over data (D), frozen or owned. -/
namespace DL
open PySem PySem.Spec PyProof.Rows L2
inductive Kd where
  | tup | lst | dct (ks : List Key) | ins (C : Addr) (fs : List Str) | exc (a : Addr) (d : Option Addr) (C : Addr) (fs : List Str)
/-- what has a length -/
def Kd.pl : Kd → Bool
  | .tup => true | .lst => true | .dct _ => true | .ins _ _ => false | .exc _ _ _ _ => false
inductive D where
  | non | bl (b : Bool) | int (i : Int) | str (x : Str) | nd (k : Kd) (ds : List D)
def NodeAt (K : PySem.W.Frag) (G : Hp) (a : Addr) (vs : List V) : Kd → Prop
  | .tup => SqT K G a vs
  | .lst => SqL K G a vs
  | .dct ks => ks.length = vs.length ∧ ks.Nodup ∧ ∃ od, G a = some (.frz od (.dK (ks.zip vs)))
  | .ins C fs => fs.length = vs.length ∧ ∃ dx, G a = some (.ins C dx (fs.zip vs))
  | .exc a' d _ fs => a = a' ∧ fs.length = vs.length ∧ ∀ dd, d = some dd → G dd = some (.xd (fs.zip vs))
mutual
inductive Rep (K : PySem.W.Frag) (G : Hp) : V → D → Prop
  | non : Rep K G .non .non
  | bl (b : Bool) : Rep K G (.bl b) (.bl b)
  | int (i : Int) : Rep K G (.int i) (.int i)
  | str (x : Str) : Rep K G (.str x) (.str x)
  | nd {a : Addr} {vs : List V} {k : Kd} {ds : List D} : NodeAt K G a vs k → Reps K G vs ds → Rep K G (.ref a) (.nd k ds)
inductive Reps (K : PySem.W.Frag) (G : Hp) : List V → List D → Prop
  | nil : Reps K G [] []
  | cons {v : V} {d : D} {vs : List V} {ds : List D} : Rep K G v d → Reps K G vs ds → Reps K G (v :: vs) (d :: ds)
end
theorem SqT.mono {K : PySem.W.Frag} {G G' : Hp} {a : Addr} {xs : List V} (e : Same G G') (h : SqT K G a xs) : SqT K G' a xs := by
  rcases h with (h | ⟨o, h⟩) | h
  · exact .inl (.inl (e _ _ h))
  · exact .inl (.inr ⟨o, e _ _ h⟩)
  · exact .inr h
theorem NodeAt.mono {K : PySem.W.Frag} {G G' : Hp} {a : Addr} {vs : List V} (e : Same G G') : ∀ {k : Kd}, NodeAt K G a vs k → NodeAt K G' a vs k
  | .tup, h => SqT.mono e h
  | .lst, h => e.seq h
  | .dct ks, ⟨h1, h2, od, h3⟩ => ⟨h1, h2, od, e _ _ h3⟩
  | .ins C fs, ⟨h1, dx, h2⟩ => ⟨h1, dx, e _ _ h2⟩
  | .exc _ _ _ _, ⟨h0, h1, h2⟩ => ⟨h0, h1, fun dd z => e _ _ (h2 dd z)⟩
mutual
theorem Rep.mono {K : PySem.W.Frag} {G G' : Hp} (e : Same G G') : ∀ {v : V} {d : D}, Rep K G v d → Rep K G' v d
  | _, _, .non => .non
  | _, _, .bl b => .bl b
  | _, _, .int i => .int i
  | _, _, .str x => .str x
  | _, _, .nd n r => .nd (n.mono e) (Reps.mono e r)
theorem Reps.mono {K : PySem.W.Frag} {G G' : Hp} (e : Same G G') : ∀ {vs : List V} {ds : List D}, Reps K G vs ds → Reps K G' vs ds
  | _, _, .nil => .nil
  | _, _, .cons h t => .cons (Rep.mono e h) (Reps.mono e t)
end
theorem Reps.length {K : PySem.W.Frag} {G : Hp} : ∀ {vs : List V} {ds : List D}, Reps K G vs ds → vs.length = ds.length
  | _, _, .nil => rfl
  | _, _, .cons _ t => by simp [Reps.length t]
theorem Reps.get {K : PySem.W.Frag} {G : Hp} : ∀ {vs : List V} {ds : List D} {i : Nat} {d : D}, Reps K G vs ds → ds[i]? = some d → ∃ v, vs[i]? = some v ∧ Rep K G v d
  | _, _, _, _, .nil, e => by simp at e
  | _, _, 0, _, .cons r _, e => by simp at e; subst e; exact ⟨_, rfl, r⟩
  | _, _, i + 1, _, .cons _ t, e => by
    obtain ⟨v, h1, h2⟩ := Reps.get (i := i) t (by simpa using e)
    exact ⟨v, by simpa using h1, h2⟩
theorem Reps.get' {K : PySem.W.Frag} {G : Hp} : ∀ {vs : List V} {ds : List D} {i : Nat} {v : V}, Reps K G vs ds → vs[i]? = some v → ∃ d, ds[i]? = some d ∧ Rep K G v d
  | _, _, _, _, .nil, e => by simp at e
  | _, _, 0, _, .cons r _, e => by simp at e; subst e; exact ⟨_, rfl, r⟩
  | _, _, i + 1, _, .cons _ t, e => by
    obtain ⟨v, h1, h2⟩ := Reps.get' (i := i) t (by simpa using e)
    exact ⟨v, by simpa using h1, h2⟩
theorem Reps.append {K : PySem.W.Frag} {G : Hp} : ∀ {vs ws : List V} {ds es : List D}, Reps K G vs ds → Reps K G ws es → Reps K G (vs ++ ws) (ds ++ es)
  | _, _, _, _, .nil, h => h
  | _, _, _, _, .cons r t, h => .cons r (Reps.append t h)
theorem Reps.take {K : PySem.W.Frag} {G : Hp} : ∀ {vs : List V} {ds : List D} (n : Nat), Reps K G vs ds → Reps K G (vs.take n) (ds.take n)
  | _, _, 0, _ => .nil
  | _, _, _ + 1, .nil => .nil
  | _, _, n + 1, .cons r t => .cons r (Reps.take n t)
theorem Reps.drop {K : PySem.W.Frag} {G : Hp} : ∀ {vs : List V} {ds : List D} (n : Nat), Reps K G vs ds → Reps K G (vs.drop n) (ds.drop n)
  | _, _, 0, r => r
  | _, _, _ + 1, .nil => .nil
  | _, _, n + 1, .cons _ t => Reps.drop n t
/-! ### values, cells, states -/
inductive E where
  | d (x : D) | r (k : Nat)
inductive Cell where
  | gone | nd (k : Kd) (es : List E)
/-- slots, cells; ar: as many of the first cells are the arguments' -/
structure S where
  sl : List (Option E)
  ce : List Cell
  ar : Nat := 0
def nth {α : Type} : List α → Nat → Option α
  | [], _ => none
  | x :: _, 0 => some x
  | _ :: r, n + 1 => nth r n
theorem nth_eq {α : Type} : ∀ (l : List α) (n : Nat), nth l n = l[n]?
  | [], n => by simp [nth]
  | x :: r, 0 => by simp [nth]
  | x :: r, n + 1 => by simp [nth, nth_eq r n]
def setN {α : Type} : List α → Nat → α → List α
  | [], _, _ => []
  | _ :: r, 0, y => y :: r
  | x :: r, n + 1, y => x :: setN r n y
theorem setN_eq {α : Type} : ∀ (l : List α) (n : Nat) (y : α), setN l n y = l.set n y
  | [], n, y => by simp [setN]
  | x :: r, 0, y => by simp [setN]
  | x :: r, n + 1, y => by simp [setN, setN_eq r n y]
abbrev VE (K : PySem.W.Frag) (G : Hp) (as : List Addr) (v : V) : E → Prop
  | .d x => Rep K G v x
  | .r k => ∃ a, as[k]? = some a ∧ v = .ref a
theorem pre_get {α : Type} {as as' : List α} (p : as <+: as') {k : Nat} {a : α} (h : as[k]? = some a) : as'[k]? = some a := by
  obtain ⟨t, rfl⟩ := p
  rw [List.getElem?_append_left (List.getElem?_eq_some_iff.mp h).1]
  exact h
theorem VE.mono {K : PySem.W.Frag} {G G' : Hp} {as as' : List Addr} (p : as <+: as') (e : Same G G') {v : V} : ∀ {x : E}, VE K G as v x → VE K G' as' v x
  | .d _, h => Rep.mono e h
  | .r _, ⟨a, h1, h2⟩ => ⟨a, pre_get p h1, h2⟩
abbrev VEs (K : PySem.W.Frag) (G : Hp) (as : List Addr) : List V → List E → Prop := Paired (VE K G as)
theorem VEs.mono {K : PySem.W.Frag} {G G' : Hp} {as as' : List Addr} (p : as <+: as') (e : Same G G') {vs : List V} {es : List E} (h : VEs K G as vs es) : VEs K G' as' vs es :=
  Paired.mapP h fun _ _ q => q.mono p e
theorem VEs.ofReps {K : PySem.W.Frag} {G : Hp} {as : List Addr} : ∀ {vs : List V} {ds : List D}, Reps K G vs ds → VEs K G as vs (ds.map .d)
  | _, _, .nil => .nil
  | _, _, .cons h t => .cons h (VEs.ofReps t)
theorem VEs.reps {K : PySem.W.Frag} {G : Hp} {as : List Addr} : ∀ {vs : List V} {ds : List D}, VEs K G as vs (ds.map .d) → Reps K G vs ds
  | [], [], _ => .nil
  | _ :: _, _ :: _, .cons h t => .cons h (VEs.reps t)
theorem VEs.get {K : PySem.W.Frag} {G : Hp} {as : List Addr} {vs : List V} {es : List E} {i : Nat} {v : V} (h : VEs K G as vs es) (e : vs[i]? = some v) : ∃ x, es[i]? = some x ∧ VE K G as v x := paired_get h e
theorem VEs.get' {K : PySem.W.Frag} {G : Hp} {as : List Addr} : ∀ {vs : List V} {es : List E} {i : Nat} {x : E}, VEs K G as vs es → es[i]? = some x → ∃ v, vs[i]? = some v ∧ VE K G as v x
  | _, _, _, _, .nil, e => by simp at e
  | _, _, 0, _, .cons r _, e => by simp at e; subst e; exact ⟨_, rfl, r⟩
  | _, _, i + 1, _, .cons _ t, e => by
    obtain ⟨v, h1, h2⟩ := VEs.get' (i := i) t (by simpa using e)
    exact ⟨v, by simpa using h1, h2⟩
def CellAt (H : Hp) (a : Addr) (vs : List V) : Kd → Prop
  | .tup => False
  | .lst => H a = some (.lst vs)
  | .dct ks => ks.length = vs.length ∧ ks.Nodup ∧ ∃ od, H a = some (.frz od (.dK (ks.zip vs)))
  | .ins C fs => fs.length = vs.length ∧ ∃ dx, H a = some (.ins C dx (fs.zip vs))
  | .exc _ _ _ _ => False
theorem CellAt.keep {H H' : Hp} {a : Addr} {vs : List V} (h : ∀ o, H a = some o → H' a = some o) : ∀ {k : Kd}, CellAt H a vs k → CellAt H' a vs k
  | .tup, x => x
  | .lst, x => h _ x
  | .dct ks, ⟨x1, x2, od, x3⟩ => ⟨x1, x2, od, h _ x3⟩
  | .ins C fs, ⟨x, dx, y⟩ => ⟨x, dx, h _ y⟩
  | .exc _ _ _ _, x => x.elim
theorem CellAt.some {H : Hp} {a : Addr} {vs : List V} : ∀ {k : Kd}, CellAt H a vs k → ∃ o, H a = some o
  | .tup, x => x.elim
  | .lst, x => ⟨_, x⟩
  | .dct ks, ⟨_, _, _, x⟩ => ⟨_, x⟩
  | .ins C fs, ⟨_, dx, y⟩ => ⟨_, y⟩
  | .exc _ _ _ _, x => x.elim
/-- a def's entry: what was frozen, the heap, the owned arguments; ow: the slots that own -/
structure Fr where
  G0 : Hp
  H0 : Hp
  A0 : List Addr
structure Cz (X : Cx) (F : Fr) (as : List Addr) (G H : Hp) (σ : L2.St) (s : S) : Prop where
  sub : Same G H
  base : Same F.G0 G
  new : ∀ b, F.G0 b = none → F.H0 b ≠ none → G b = none
  frame : ∀ b o, F.H0 b = some o → b ∉ F.A0 → H b = some o
  len : as.length = s.ce.length
  pre : F.A0 <+: as
  nd : as.Nodup
  own : ∀ (k : Nat) (a : Addr) (kd : Kd) (es : List E), as[k]? = some a → s.ce[k]? = some (.nd kd es) → G a = none
  fresh : ∀ a ∈ as, a ∈ F.A0 ∨ F.H0 a = none
  there : ∀ a ∈ as, H a ≠ none
  cells : ∀ (k : Nat) (kd : Kd) (es : List E), s.ce[k]? = some (.nd kd es) → ∃ a vs, as[k]? = some a ∧ CellAt H a vs kd ∧ VEs X.K G as vs es
  slots : ∀ (i : Nat) (e : E), s.sl[i]? = some (some e) → ∃ v, σ[i]? = some (some v) ∧ VE X.K G as v e
  slen : s.sl.length = σ.length
  har : F.A0.length = s.ar
/-- what an answer must bear: further owned addresses, more frozen -/
structure Ext (as as' : List Addr) (G G' : Hp) : Prop where
  pre : as <+: as'
  sub : Same G G'
theorem Ext.refl (as : List Addr) (G : Hp) : Ext as as G G := ⟨List.prefix_refl _, Same.refl _⟩
theorem Ext.trans {a b c : List Addr} {G1 G2 G3 : Hp} (x : Ext a b G1 G2) (y : Ext b c G2 G3) : Ext a c G1 G3 := ⟨x.pre.trans y.pre, x.sub.trans y.sub⟩
theorem Ext.ve {K : PySem.W.Frag} {a b : List Addr} {G G' : Hp} (x : Ext a b G G') {v : V} {e : E} (h : VE K G a v e) : VE K G' b v e := h.mono x.pre x.sub
theorem Ext.ves {K : PySem.W.Frag} {a b : List Addr} {G G' : Hp} (x : Ext a b G G') {v : List V} {e : List E} (h : VEs K G a v e) : VEs K G' b v e := h.mono x.pre x.sub
/-! ### what the code does, as readings -/
def semE (X : Cx) (e : Expr) : TE := fun σ H Q => ∀ pins s, Inv X pins σ H s → wpAny (model X.prog X.w) X.A (eval e X.env) (EP X pins σ Q) X.xe s
theorem pe_sem (X : Cx) (e : Expr) : PE X e (semE X e) := ⟨fun pins s σ H Q I h => h pins s I⟩
theorem PE.sem {X : Cx} {e : Expr} {t : TE} (h : PE X e t) {σ : L2.St} {H : Hp} {Q : VK} (q : t σ H Q) : semE X e σ H Q := fun pins s I => h.run pins s σ H Q I q
def semT (X : Cx) (e : Expr) : TT := fun σ H Q => ∀ pins s, Inv X pins σ H s → wpAny (model X.prog X.w) X.A (isTrue e X.env (eval e X.env)) (TP X pins σ Q) X.xe s
theorem pt_sem (X : Cx) (e : Expr) : PT X e (semT X e) := ⟨fun pins s σ H Q I h => h pins s I⟩
theorem PT.sem {X : Cx} {e : Expr} {t : TT} (h : PT X e t) {σ : L2.St} {H : Hp} {Q : Bool → Hp → Prop} (q : t σ H Q) : semT X e σ H Q := fun pins s I => h.run pins s σ H Q I q
def semW (X : Cx) (e : Expr) : TT := fun σ H Q => ∀ whole pins s, Inv X pins σ H s → wpAny (model X.prog X.w) X.A (isTrue e X.env whole) (TP X pins σ Q) X.xe s
theorem pw_sem (X : Cx) (e : Expr) : PW X e (semW X e) := ⟨fun wh pins s σ H Q I h => h wh pins s I⟩
theorem PW.sem {X : Cx} {e : Expr} {t : TT} (h : PW X e t) {σ : L2.St} {H : Hp} {Q : Bool → Hp → Prop} (q : t σ H Q) : semW X e σ H Q := fun wh pins s I => h.run wh pins s σ H Q I q
def semA (X : Cx) (es : List Expr) : TA := fun σ H Q => ∀ (pos : Pos) pins s, Inv X pins σ H s → wpAny (model X.prog X.w) X.A (spliced (backTo pos (starEach es X.env))) (AP X pins σ Q) X.xe s
theorem pa_sem (X : Cx) (es : List Expr) : PA X es (semA X es) := ⟨fun pos pins s σ H Q I h => h pos pins s I⟩
theorem PA.sem {X : Cx} {es : List Expr} {t : TA} (h : PA X es t) {σ : L2.St} {H : Hp} {Q : List V → Hp → Prop} (q : t σ H Q) : semA X es σ H Q := fun pos pins s I => h.run pos pins s σ H Q I q
def semS (X : Cx) (st : Stmt) : TS := fun D σ H => ∀ pins s, Inv X pins σ H s → wpAny (model X.prog X.w) X.A (exec st X.env) (SP X pins D) X.xe s
theorem ps_sem (X : Cx) (st : Stmt) : PS X st (semS X st) := ⟨fun pins s σ H D I h => h pins s I⟩
theorem PS.sem {X : Cx} {st : Stmt} {t : TS} (h : PS X st t) {σ : L2.St} {H : Hp} {D : Ends} (q : t D σ H) : semS X st D σ H := fun pins s I => h.run pins s σ H D I q
def semSs (X : Cx) (st : List Stmt) : TS := fun D σ H => ∀ pins s, Inv X pins σ H s → wpAny (model X.prog X.w) X.A (execs st X.env) (SP X pins D) X.xe s
theorem pss_sem (X : Cx) (st : List Stmt) : PSs X st (semSs X st) := ⟨fun pins s σ H D I h => h pins s I⟩
theorem PSs.sem {X : Cx} {st : List Stmt} {t : TS} (h : PSs X st t) {σ : L2.St} {H : Hp} {D : Ends} (q : t D σ H) : semSs X st D σ H := fun pins s I => h.run pins s σ H D I q
def semG (X : Cx) (tg : Expr) : TG := fun v σ H Q => ∀ pins s u, Inv X pins σ H s → RelV v u → wpAny (model X.prog X.w) X.A (assign tg X.env u) (fun _ s' => ∃ σ' H', Inv X pins σ' H' s' ∧ Q σ' H') X.xe s
theorem pg_sem (X : Cx) (tg : Expr) : PG X tg (semG X tg) := ⟨fun pins s σ H v u Q I r h => h pins s u I r⟩
theorem PG.sem {X : Cx} {tg : Expr} {t : TG} (h : PG X tg t) {v : V} {σ : L2.St} {H : Hp} {Q : L2.St → Hp → Prop} (q : t v σ H Q) : semG X tg v σ H Q := fun pins s u I r => h.run pins s σ H v u Q I r q
def semR2 (X : Cx) (f : Value → Value → Sem Value) : R2 := fun x y H Q => ∀ pins s σ v u, Inv X pins σ H s → RelV x v → RelV y u → wpAny (model X.prog X.w) X.A (f v u) (EP X pins σ Q) X.xe s
theorem op_sem (X : Cx) (f : Value → Value → Sem Value) : OpR X f (semR2 X f) := fun pins s σ H x y v u Q I rx ry h => h pins s σ v u I rx ry
/-! ### judgements over data -/
section
variable (X : Cx) (F : Fr)
def JE (e : Expr) (s : S) (Φ : E → S → Prop) : Prop := ∀ as G H σ (Q : VK), Cz X F as G H σ s →
  (∀ v as' G' H' e' s', Cz X F as' G' H' σ s' → Ext as as' G G' → VE X.K G' as' v e' → Φ e' s' → Q v H') → semE X e σ H Q
def JT (e : Expr) (s : S) (Φ : Bool → S → Prop) : Prop := ∀ as G H σ (Q : Bool → Hp → Prop), Cz X F as G H σ s →
  (∀ b as' G' H' s', Cz X F as' G' H' σ s' → Ext as as' G G' → Φ b s' → Q b H') → semT X e σ H Q
def JW (e : Expr) (s : S) (Φ : Bool → S → Prop) : Prop := ∀ as G H σ (Q : Bool → Hp → Prop), Cz X F as G H σ s →
  (∀ b as' G' H' s', Cz X F as' G' H' σ s' → Ext as as' G G' → Φ b s' → Q b H') → semW X e σ H Q
def JA (es : List Expr) (s : S) (Φ : List E → S → Prop) : Prop := ∀ as G H σ (Q : List V → Hp → Prop), Cz X F as G H σ s →
  (∀ vs as' G' H' es' s', Cz X F as' G' H' σ s' → Ext as as' G G' → VEs X.K G' as' vs es' → Φ es' s' → Q vs H') → semA X es σ H Q
/-- an operation on two values -/
def JR (f : Value → Value → Sem Value) (e1 e2 : E) (s : S) (Φ : E → S → Prop) : Prop := ∀ as G H σ x y (Q : VK), Cz X F as G H σ s → VE X.K G as x e1 → VE X.K G as y e2 →
  (∀ v as' G' H' e' s', Cz X F as' G' H' σ s' → Ext as as' G G' → VE X.K G' as' v e' → Φ e' s' → Q v H') → semR2 X f x y H Q
/-- an operation on one value, or several: what comes of them is wanted by r -/
def JV (r : List V → Hp → VK → Prop) (es : List E) (s : S) (Φ : E → S → Prop) : Prop := ∀ as G H σ vs (Q : VK), Cz X F as G H σ s → VEs X.K G as vs es →
  (∀ v as' G' H' e' s', Cz X F as' G' H' σ s' → Ext as as' G G' → VE X.K G' as' v e' → Φ e' s' → Q v H') → r vs H Q
/-- a store into a target -/
def JG (tg : Expr) (e : E) (s : S) (Φ : S → Prop) : Prop := ∀ as G H σ v (Q : L2.St → Hp → Prop), Cz X F as G H σ s → VE X.K G as v e →
  (∀ as' G' H' σ' s', Cz X F as' G' H' σ' s' → Ext as as' G G' → Φ s' → Q σ' H') → semG X tg v σ H Q
structure Po where
  nx : S → Prop
  rt : E → S → Prop
  bk : S → Prop := fun _ => False
  ct : S → Prop := fun _ => False
/-- the ends that a statement's state must reach, from as, G on -/
structure DOk (as : List Addr) (G : Hp) (P : Po) (D : Ends) : Prop where
  nx : ∀ as' G' H' σ' s', Cz X F as' G' H' σ' s' → Same G G' → P.nx s' → D.nx σ' H'
  rt : ∀ v as' G' H' σ' e' s', Cz X F as' G' H' σ' s' → Same G G' → VE X.K G' as' v e' → P.rt e' s' → D.rt v H'
  bk : ∀ as' G' H' σ' s', Cz X F as' G' H' σ' s' → Same G G' → P.bk s' → D.bk σ' H'
  ct : ∀ as' G' H' σ' s', Cz X F as' G' H' σ' s' → Same G G' → P.ct s' → D.ct σ' H'
def JS (st : Stmt) (s : S) (P : Po) : Prop := ∀ as G H σ D, Cz X F as G H σ s → DOk X F as G P D → semS X st D σ H
def JSs (st : List Stmt) (s : S) (P : Po) : Prop := ∀ as G H σ D, Cz X F as G H σ s → DOk X F as G P D → semSs X st D σ H
end
variable {X : Cx} {F : Fr} {s : S}
theorem DOk.ext {as as' : List Addr} {G G' : Hp} {P : Po} {D : Ends} (h : DOk X F as G P D) (x : Ext as as' G G') : DOk X F as' G' P D :=
  ⟨fun a b c d e f g i => h.nx a b c d e f (x.sub.trans g) i, fun v a b c d e f g i j k => h.rt v a b c d e f g (x.sub.trans i) j k, fun a b c d e f g i => h.bk a b c d e f (x.sub.trans g) i, fun a b c d e f g i => h.ct a b c d e f (x.sub.trans g) i⟩
theorem DOk.exs {as as' : List Addr} {G G' : Hp} {P : Po} {D : Ends} (h : DOk X F as G P D) (x : Same G G') : DOk X F as' G' P D :=
  ⟨fun a b c d e f g i => h.nx a b c d e f (x.trans g) i, fun v a b c d e f g i j k => h.rt v a b c d e f g (x.trans i) j k, fun a b c d e f g i => h.bk a b c d e f (x.trans g) i, fun a b c d e f g i => h.ct a b c d e f (x.trans g) i⟩
theorem JE.mono {e : Expr} {Φ Ψ : E → S → Prop} (h : JE X F e s Φ) (m : ∀ e s, Φ e s → Ψ e s) : JE X F e s Ψ := fun as G H σ Q c k => h as G H σ Q c fun v as' G' H' e' s' c' x ve q => k v as' G' H' e' s' c' x ve (m _ _ q)
theorem JSs.mono {e : List Stmt} {P P' : Po} (h : JSs X F e s P) (m1 : ∀ s, P.nx s → P'.nx s) (m2 : ∀ e s, P.rt e s → P'.rt e s) (m3 : ∀ s, P.bk s → P'.bk s) (m4 : ∀ s, P.ct s → P'.ct s) : JSs X F e s P' := fun as G H σ D c k =>
  h as G H σ D c ⟨fun a b c d e f g i => k.nx a b c d e f g (m1 _ i), fun v a b c d e f g i j q => k.rt v a b c d e f g i j (m2 _ _ q), fun a b c d e f g i => k.bk a b c d e f g (m3 _ i), fun a b c d e f g i => k.ct a b c d e f g (m4 _ i)⟩
/-! ### expressions -/
section
variable {e a b c : Expr} {es rest : List Expr} {Φ : E → S → Prop} {Ψ : Bool → S → Prop} {pos p : Pos}
/-- by a rule of the layer whose reading leaves the heap as it is -/
theorem je_of {t : TE} (h : PE X e t) (k : ∀ as G H σ (Q : VK), Cz X F as G H σ s → (∀ v as' G' H' e' s', Cz X F as' G' H' σ s' → Ext as as' G G' → VE X.K G' as' v e' → Φ e' s' → Q v H') → t σ H Q) : JE X F e s Φ :=
  fun as G H σ Q c q => PE.sem h (k as G H σ Q c q)
structure NmR (X : Cx) (i : Nat) (x : Str) : Prop where
  nm : X.N[i]? = some x
  vis : Vis X.env.scope x
  dbg : (x == ("__debug__" : Str)) = false
  cdt : (x == ("__classdict__" : Str)) = false
theorem je_name {i : Nat} {x : Str} {e' : E} (n : NmR X i x) (h : nth s.sl i = some (some e')) (q : Φ e' s) : JE X F (.Name x pos) s Φ :=
  je_of (pe_var n.nm n.vis n.dbg n.cdt) fun as G H σ Q c k => by
    rw [nth_eq] at h
    obtain ⟨v, h1, h2⟩ := c.slots i e' h
    exact ⟨v, h1, k v as G H e' s c (Ext.refl _ _) h2 q⟩
theorem je_int {i : Int} {j : Nat} (q : Φ (.d (.int i)) s) : JE X F (.Constant (.int i) j pos) s Φ := je_of pe_int fun as G H σ Q c k => k _ as G H _ s c (Ext.refl _ _) (Rep.int i) q
theorem je_bl {i : Bool} {j : Nat} (q : Φ (.d (.bl i)) s) : JE X F (.Constant (.bool i) j pos) s Φ := je_of pe_bl fun as G H σ Q c k => k _ as G H _ s c (Ext.refl _ _) (Rep.bl i) q
theorem je_non {j : Nat} (q : Φ (.d .non) s) : JE X F (.Constant .none j pos) s Φ := je_of pe_non fun as G H σ Q c k => k _ as G H _ s c (Ext.refl _ _) Rep.non q
theorem je_str {x : Str} {j : Nat} (q : Φ (.d (.str x)) s) : JE X F (.Constant (.str x) j pos) s Φ := je_of pe_str fun as G H σ Q c k => k _ as G H _ s c (Ext.refl _ _) (Rep.str x) q
/-- a module's constant -/
structure Gc (X : Cx) (x : Str) (d : D) : Prop where
  gl : Gl X x
  mg : ∃ v u, X.mg x = some u ∧ RelV v u ∧ Rep X.K (fun _ => none) v d
  dbg : (x == ("__debug__" : Str)) = false
theorem je_glob {x : Str} {d : D} (g : Gc X x d) (q : Φ (.d d) s) : JE X F (.Name x pos) s Φ := by
  obtain ⟨v, u, h1, h2, h3⟩ := g.mg
  exact je_of (pe_glob g.gl h1 h2 g.dbg) fun as G H σ Q c k => k _ as G H _ s c (Ext.refl _ _) (h3.mono (by intro _ _ z; cases z)) q
theorem je_bin {op : Operator} (h : JE X F a s fun e1 s1 => JE X F b s1 fun e2 s2 => JR X F (binaryOp op) e1 e2 s2 Φ) : JE X F (.BinOp a op b pos) s Φ :=
  je_of (pe_op (op_sem X _) (pe_sem X a) (pe_sem X b)) fun as G H σ Q c k => h as G H σ _ c fun v1 as1 G1 H1 e1 s1 c1 x1 ve1 h1 => h1 as1 G1 H1 σ _ c1 fun v2 as2 G2 H2 e2 s2 c2 x2 ve2 h2 =>
    h2 as2 G2 H2 σ _ _ Q c2 (x2.ve ve1) ve2 fun v as' G' H' e' s' c' x ve q => k v as' G' H' e' s' c' ((x1.trans x2).trans x) ve q
theorem je_cmp {op : CmpOp} (h : JE X F a s fun e1 s1 => JE X F b s1 fun e2 s2 => JR X F (compareOp op) e1 e2 s2 Φ) (hm : behindInMarks op b = false := by rfl) : JE X F (.Compare a [op] [b] pos) s Φ :=
  je_of (pe_cmpR (op_sem X _) (pe_sem X a) (pe_sem X b) hm) fun as G H σ Q c k => h as G H σ _ c fun v1 as1 G1 H1 e1 s1 c1 x1 ve1 h1 => h1 as1 G1 H1 σ _ c1 fun v2 as2 G2 H2 e2 s2 c2 x2 ve2 h2 =>
    h2 as2 G2 H2 σ _ _ Q c2 (x2.ve ve1) ve2 fun v as' G' H' e' s' c' x ve q => k v as' G' H' e' s' c' ((x1.trans x2).trans x) ve q
theorem jt_cmp {op : CmpOp} (h : JE X F a s fun e1 s1 => JE X F b s1 fun e2 s2 => JR X F (compareOp op) e1 e2 s2 fun e3 s3 => ∃ k, e3 = .d (.bl k) ∧ Ψ k s3) (hm : behindInMarks op b = false := by rfl) : JT X F (.Compare a [op] [b] pos) s Ψ :=
  fun as G H σ Q c k => PT.sem (pt_cmpR (op_sem X _) (pe_sem X a) (pe_sem X b) hm) (h as G H σ _ c fun v1 as1 G1 H1 e1 s1 c1 x1 ve1 h1 => h1 as1 G1 H1 σ _ c1 fun v2 as2 G2 H2 e2 s2 c2 x2 ve2 h2 =>
    h2 as2 G2 H2 σ _ _ _ c2 (x2.ve ve1) ve2 fun v as' G' H' e' s' c' x ve ⟨t, et, q⟩ => by
      subst et
      cases ve
      exact ⟨t, rfl, k t as' G' H' s' c' ((x1.trans x2).trans x) q⟩)
/-- a op b op' c -/
theorem je_chain {op op' : CmpOp} (h : JE X F a s fun e1 s1 => JE X F b s1 fun e2 s2 => JR X F (compareOp op) e1 e2 s2 fun e3 s3 => ∃ k, e3 = .d (.bl k) ∧ if k = true then JE X F c s3 fun e4 s4 => JR X F (compareOp op') e2 e4 s4 Φ else Φ (.d (.bl false)) s3)
    (hm : lastMarks [op, op'] [b, c] = false := by with_unfolding_all rfl) : JE X F (.Compare a [op, op'] [b, c] pos) s Φ :=
  je_of (pe_chain (op_sem X _) (op_sem X _) (pe_sem X a) (pe_sem X b) (pe_sem X c) hm) fun as G H σ Q c0 k => h as G H σ _ c0 fun v1 as1 G1 H1 e1 s1 c1 x1 ve1 h1 => h1 as1 G1 H1 σ _ c1 fun v2 as2 G2 H2 e2 s2 c2 x2 ve2 h2 =>
    h2 as2 G2 H2 σ _ _ _ c2 (x2.ve ve1) ve2 fun v as3 G3 H3 e3 s3 c3 x3 ve ⟨t, et, q⟩ => by
      subst et
      cases ve
      refine ⟨t, rfl, ?_⟩
      cases t with
      | true =>
        simp only [if_true] at q ⊢
        exact q as3 G3 H3 σ _ c3 fun v4 as4 G4 H4 e4 s4 c4 x4 ve4 h4 => h4 as4 G4 H4 σ _ _ Q c4 (x4.ve (x3.ve ve2)) ve4 fun v as' G' H' e' s' c' x ve q => k v as' G' H' e' s' c' ((((x1.trans x2).trans x3).trans x4).trans x) ve q
      | false => exact k _ as3 G3 H3 _ s3 c3 ((x1.trans x2).trans x3) (Rep.bl false) q
theorem jt_chain {op op' : CmpOp} (h : JE X F a s fun e1 s1 => JE X F b s1 fun e2 s2 => JR X F (compareOp op) e1 e2 s2 fun e3 s3 => ∃ k, e3 = .d (.bl k) ∧ if k = true then JE X F c s3 fun e4 s4 => JR X F (compareOp op') e2 e4 s4 (fun e5 s5 => ∃ k, e5 = .d (.bl k) ∧ Ψ k s5) else Ψ false s3)
    (hm : lastMarks [op, op'] [b, c] = false := by with_unfolding_all rfl) : JT X F (.Compare a [op, op'] [b, c] pos) s Ψ :=
  fun as G H σ Q c0 k => PT.sem (pt_chain (op_sem X _) (op_sem X _) (pe_sem X a) (pe_sem X b) (pe_sem X c) hm) (h as G H σ _ c0 fun v1 as1 G1 H1 e1 s1 c1 x1 ve1 h1 => h1 as1 G1 H1 σ _ c1 fun v2 as2 G2 H2 e2 s2 c2 x2 ve2 h2 =>
    h2 as2 G2 H2 σ _ _ _ c2 (x2.ve ve1) ve2 fun v as3 G3 H3 e3 s3 c3 x3 ve ⟨t, et, q⟩ => by
      subst et
      cases ve
      refine ⟨t, rfl, ?_⟩
      cases t with
      | true =>
        simp only [if_true] at q ⊢
        exact q as3 G3 H3 σ _ c3 fun v4 as4 G4 H4 e4 s4 c4 x4 ve4 h4 => h4 as4 G4 H4 σ _ _ _ c4 (x4.ve (x3.ve ve2)) ve4 fun v as' G' H' e' s' c' x ve ⟨t, et, q⟩ => by
          subst et
          cases ve
          exact ⟨t, rfl, k t as' G' H' s' c' ((((x1.trans x2).trans x3).trans x4).trans x) q⟩
      | false => exact ⟨false, rfl, k _ as3 G3 H3 s3 c3 ((x1.trans x2).trans x3) q⟩)
def JU (X : Cx) (F : Fr) (op : UnaryOp) (e : E) (s : S) (Φ : E → S → Prop) : Prop := JV X F (fun vs H Q => ∀ pins st σ v, Inv X pins σ H st → RelV (vs.headD .non) v → wpAny (model X.prog X.w) X.A (unaryOp op v) (EP X pins σ Q) X.xe st) [e] s Φ
theorem je_un {op : UnaryOp} (h : JE X F a s fun e1 s1 => JU X F op e1 s1 Φ) : JE X F (.UnaryOp op a pos) s Φ :=
  je_of (pe_un (r := fun x H Q => ∀ pins st σ v, Inv X pins σ H st → RelV x v → wpAny (model X.prog X.w) X.A (unaryOp op v) (EP X pins σ Q) X.xe st) (fun pins st σ H x v Q I rx q => q pins st σ v I rx) (pe_sem X a)) fun as G H σ Q c k =>
    h as G H σ _ c fun v1 as1 G1 H1 e1 s1 c1 x1 ve1 h1 => h1 as1 G1 H1 σ [v1] Q c1 (.cons ve1 .nil) fun v as' G' H' e' s' c' x ve q => k v as' G' H' e' s' c' (x1.trans x) ve q
/-! tests -/
theorem jt_w (h : JW X F e s Ψ) : JT X F e s Ψ := fun as G H σ Q c k => fun pins st I => h as G H σ Q c k _ pins st I
theorem jw_and1 (h : JT X F a s Ψ) : JW X F (.BoolOp .And [a] pos) s Ψ := fun as G H σ Q c k => PW.sem (pw_and1 (pt_sem X a)) (h as G H σ Q c k)
theorem jw_or1 (h : JT X F a s Ψ) : JW X F (.BoolOp .Or [a] pos) s Ψ := fun as G H σ Q c k => PW.sem (pw_or1 (pt_sem X a)) (h as G H σ Q c k)
theorem jw_and (h : JT X F a s fun k s1 => if k = true then JW X F (.BoolOp .And (b :: rest) pos) s1 Ψ else Ψ false s1) : JW X F (.BoolOp .And (a :: b :: rest) pos) s Ψ :=
  fun as G H σ Q c k => PW.sem (pw_and (pt_sem X a) (pw_sem X _)) (h as G H σ _ c fun t as1 G1 H1 s1 c1 x1 h1 => by
    cases t with
    | true =>
      simp only [if_true] at h1 ⊢
      exact h1 as1 G1 H1 σ Q c1 fun b as2 G2 H2 s2 c2 x2 q => k b as2 G2 H2 s2 c2 (x1.trans x2) q
    | false => exact k false as1 G1 H1 s1 c1 x1 h1)
theorem jw_or (h : JT X F a s fun k s1 => if k = true then Ψ true s1 else JW X F (.BoolOp .Or (b :: rest) pos) s1 Ψ) : JW X F (.BoolOp .Or (a :: b :: rest) pos) s Ψ :=
  fun as G H σ Q c k => PW.sem (pw_or (pt_sem X a) (pw_sem X _)) (h as G H σ _ c fun t as1 G1 H1 s1 c1 x1 h1 => by
    cases t with
    | true => exact k true as1 G1 H1 s1 c1 x1 h1
    | false => exact h1 as1 G1 H1 σ Q c1 fun b as2 G2 H2 s2 c2 x2 q => k b as2 G2 H2 s2 c2 (x1.trans x2) q)
theorem jt_not (h : JT X F a s fun k s1 => Ψ (!k) s1) : JT X F (.UnaryOp .Not a pos) s Ψ := fun as G H σ Q c k => PT.sem (pt_not (pt_sem X a)) (h as G H σ _ c fun t as1 G1 H1 s1 c1 x1 h1 => k _ as1 G1 H1 s1 c1 x1 h1)
/-- an expression that gives a bool, as a test -/
theorem jt_val (h : JE X F e s fun e1 s1 => ∃ k, e1 = .d (.bl k) ∧ Ψ k s1) (he : ∀ whole, isTrue e X.env whole = (do let v ← whole; standAt e.pos; holding [v] (truthy v)) := by intro _; rfl) : JT X F e s Ψ :=
  fun as G H σ Q c k => PT.sem (pt_val (pe_sem X e) he) (h as G H σ _ c fun v as1 G1 H1 e1 s1 c1 x1 ve ⟨t, et, q⟩ => by
    subst et
    cases ve
    exact ⟨t, rfl, k t as1 G1 H1 s1 c1 x1 q⟩)
/-- and, or, not as values -/
theorem je_one {op : BoolOp} (h : JE X F a s Φ) : JE X F (.BoolOp op [a] pos) s Φ := fun as G H σ Q c k => PE.sem (pe_one (pe_sem X a)) (h as G H σ Q c k)
theorem je_and (h : JE X F a s fun e1 s1 => ∃ k, e1 = .d (.bl k) ∧ if k = true then JE X F (.BoolOp .And (b :: rest) pos) s1 Φ else Φ (.d (.bl false)) s1) : JE X F (.BoolOp .And (a :: b :: rest) pos) s Φ :=
  je_of (pe_and (pe_sem X a) (pe_sem X _)) fun as G H σ Q c k => h as G H σ _ c fun v as1 G1 H1 e1 s1 c1 x1 ve ⟨t, et, h1⟩ => by
    subst et
    cases ve
    refine ⟨t, rfl, ?_⟩
    cases t with
    | true =>
      simp only [if_true] at h1 ⊢
      exact h1 as1 G1 H1 σ Q c1 fun v as2 G2 H2 e2 s2 c2 x2 ve q => k v as2 G2 H2 e2 s2 c2 (x1.trans x2) ve q
    | false => exact k _ as1 G1 H1 _ s1 c1 x1 (Rep.bl false) h1
theorem je_or (h : JE X F a s fun e1 s1 => ∃ k, e1 = .d (.bl k) ∧ if k = true then Φ (.d (.bl true)) s1 else JE X F (.BoolOp .Or (b :: rest) pos) s1 Φ) : JE X F (.BoolOp .Or (a :: b :: rest) pos) s Φ :=
  je_of (pe_or (pe_sem X a) (pe_sem X _)) fun as G H σ Q c k => h as G H σ _ c fun v as1 G1 H1 e1 s1 c1 x1 ve ⟨t, et, h1⟩ => by
    subst et
    cases ve
    refine ⟨t, rfl, ?_⟩
    cases t with
    | true => exact k _ as1 G1 H1 _ s1 c1 x1 (Rep.bl true) h1
    | false => exact h1 as1 G1 H1 σ Q c1 fun v as2 G2 H2 e2 s2 c2 x2 ve q => k v as2 G2 H2 e2 s2 c2 (x1.trans x2) ve q
theorem je_not (h : JE X F a s fun e1 s1 => ∃ k, e1 = .d (.bl k) ∧ Φ (.d (.bl (!k))) s1) : JE X F (.UnaryOp .Not a pos) s Φ :=
  je_of (pe_not (pe_sem X a)) fun as G H σ Q c k => h as G H σ _ c fun v as1 G1 H1 e1 s1 c1 x1 ve ⟨t, et, h1⟩ => by
    subst et
    cases ve
    exact ⟨t, rfl, k _ as1 G1 H1 _ s1 c1 x1 (Rep.bl _) h1⟩
theorem je_ife (h : JT X F c s fun k s1 => if k = true then JE X F a s1 Φ else JE X F b s1 Φ) : JE X F (.IfExp c a b pos) s Φ :=
  je_of (pe_ifExp (pt_sem X c) (pe_sem X a) (pe_sem X b)) fun as G H σ Q c k => h as G H σ _ c fun t as1 G1 H1 s1 c1 x1 h1 => by
    cases t with
    | true =>
      simp only [if_true] at h1 ⊢
      exact h1 as1 G1 H1 σ Q c1 fun v as2 G2 H2 e2 s2 c2 x2 ve q => k v as2 G2 H2 e2 s2 c2 (x1.trans x2) ve q
    | false => exact h1 as1 G1 H1 σ Q c1 fun v as2 G2 H2 e2 s2 c2 x2 ve q => k v as2 G2 H2 e2 s2 c2 (x1.trans x2) ve q
/-! argument lists -/
theorem ja_nil {Φ : List E → S → Prop} (q : Φ [] s) : JA X F [] s Φ := fun as G H σ Q c k => PA.sem pa_nil (k [] as G H [] s c (Ext.refl _ _) .nil q)
theorem ja_cons {Φ : List E → S → Prop} (h : JE X F e s fun e1 s1 => JA X F es s1 fun r s2 => Φ (e1 :: r) s2) (hs : starEach (e :: es) X.env = (false, eval e X.env) :: starEach es X.env := by rfl) : JA X F (e :: es) s Φ :=
  fun as G H σ Q c k => PA.sem (pa_cons (pe_sem X e) (pa_sem X es) hs) (h as G H σ _ c fun v as1 G1 H1 e1 s1 c1 x1 ve h1 => h1 as1 G1 H1 σ _ c1 fun vs as2 G2 H2 r s2 c2 x2 ves q => k _ as2 G2 H2 _ s2 c2 (x1.trans x2) (.cons (x2.ve ve) ves) q)
end
end DL
namespace DL
open PySem PySem.Spec PyProof.Rows L2
/-! ### nodes -/
def S.node (s : S) : E → Option (Kd × List E)
  | .d (.nd k ds) => some (k, ds.map .d)
  | .d .non => none
  | .d (.bl _) => none
  | .d (.int _) => none
  | .d (.str _) => none
  | .r i => match nth s.ce i with
    | some (.nd k es) => some (k, es)
    | _ => none
theorem CellAt.node {K : PySem.W.Frag} {H : Hp} {a : Addr} {vs : List V} : ∀ {k : Kd}, CellAt H a vs k → NodeAt K H a vs k
  | .tup, x => x.elim
  | .lst, x => SqL.of x
  | .dct ks, x => x
  | .ins C fs, x => x
  | .exc _ _ _ _, x => x.elim
variable {X : Cx} {F : Fr} {s : S}
theorem Cz.node {as : List Addr} {G H : Hp} {σ : L2.St} (c : Cz X F as G H σ s) {v : V} {e : E} {kd : Kd} {es : List E} (ve : VE X.K G as v e) (h : s.node e = some (kd, es)) :
    ∃ a vs, v = .ref a ∧ NodeAt X.K H a vs kd ∧ VEs X.K G as vs es := by
  cases e with
  | d x =>
    cases x with
    | nd k ds =>
      cases h
      cases ve with
      | nd n r => exact ⟨_, _, rfl, n.mono c.sub, VEs.ofReps r⟩
    | _ => cases h
  | r i =>
    obtain ⟨a, h1, h2⟩ := ve
    have h : (match nth s.ce i with
      | some (.nd k es) => some (k, es)
      | _ => none) = some (kd, es) := h
    rw [nth_eq] at h
    cases hc : s.ce[i]? with
    | none => rw [hc] at h; cases h
    | some cl =>
      rw [hc] at h
      cases cl with
      | gone => cases h
      | nd k es' =>
        cases h
        obtain ⟨a', vs, g1, g2, g3⟩ := c.cells i _ _ hc
        rw [h1] at g1
        cases g1
        exact ⟨_, vs, h2, g2.node, g3⟩
/-- a node as data -/
def dsOf : List E → Option (List D)
  | [] => some []
  | .d x :: r => (dsOf r).map (x :: ·)
  | .r _ :: _ => none
theorem dsOf_eq : ∀ {es : List E} {ds : List D}, dsOf es = some ds → es = ds.map .d
  | [], ds, h => by cases h; rfl
  | .d x :: r, ds, h => by
    unfold dsOf at h
    cases q : dsOf r with
    | none => rw [q] at h; cases h
    | some y =>
      rw [q] at h
      cases h
      rw [dsOf_eq q]
      rfl
  | .r _ :: _, ds, h => by cases h
theorem dsOf_map : ∀ (ds : List D), dsOf (ds.map .d) = some ds
  | [] => rfl
  | d :: ds => by
    show (dsOf (ds.map .d)).map (d :: ·) = _
    rw [dsOf_map ds]
    rfl
theorem VEs.atI {K : PySem.W.Frag} {G : Hp} {as : List Addr} {vs : List V} {es : List E} {i : Int} {e : E} (r : VEs K G as vs es) (h : L2.atI es i = some e) : ∃ v, L2.atI vs i = some v ∧ VE K G as v e := by
  unfold L2.atI at h ⊢
  rw [Paired.length r]
  cases q : ixN es.length i with
  | none => rw [q] at h; cases h
  | some j =>
    rw [q] at h
    exact r.get' h
/-! ### subscripts -/
def semIx (X : Cx) : R2 := fun x y H Q => ∀ value slice pins st σ v u, Inv X pins σ H st → RelV x v → RelV y u → subscripted slice false v u = operate [v, u] (getItem v u) → wpAny (model X.prog X.w) X.A (subscriptTail value slice v u) (EP X pins σ Q) X.xe st
theorem ix_sem (X : Cx) : IxR X (semIx X) := fun value slice pins st σ H x y v u Q I rx ry h hs => h value slice pins st σ v u I rx ry hs
def JX (X : Cx) (F : Fr) (e1 e2 : E) (s : S) (Φ : E → S → Prop) : Prop := ∀ as G H σ x y (Q : VK), Cz X F as G H σ s → VE X.K G as x e1 → VE X.K G as y e2 →
  (∀ v as' G' H' e' s', Cz X F as' G' H' σ s' → Ext as as' G G' → VE X.K G' as' v e' → Φ e' s' → Q v H') → semIx X x y H Q
section
variable {e a b c : Expr} {es rest : List Expr} {Φ : E → S → Prop} {Ψ : Bool → S → Prop} {pos p : Pos}
theorem je_sub (h : JE X F a s fun e1 s1 => JE X F b s1 fun e2 s2 => JX X F e1 e2 s2 Φ) (hs : PlainIx b := by intro _ _; rfl) : JE X F (.Subscript a b pos) s Φ :=
  je_of (pe_ix (ix_sem X) (pe_sem X a) (pe_sem X b) hs) fun as G H σ Q c k => h as G H σ _ c fun v1 as1 G1 H1 e1 s1 c1 x1 ve1 h1 => h1 as1 G1 H1 σ _ c1 fun v2 as2 G2 H2 e2 s2 c2 x2 ve2 h2 =>
    h2 as2 G2 H2 σ _ _ Q c2 (x2.ve ve1) ve2 fun v as' G' H' e' s' c' x ve q => k v as' G' H' e' s' c' ((x1.trans x2).trans x) ve q
theorem jx_of {r : R2} {e1 e2 : E} (h : IxR X r) (k : ∀ as G H σ x y (Q : VK), Cz X F as G H σ s → VE X.K G as x e1 → VE X.K G as y e2 →
    (∀ v as' G' H' e' s', Cz X F as' G' H' σ s' → Ext as as' G G' → VE X.K G' as' v e' → Φ e' s' → Q v H') → r x y H Q) : JX X F e1 e2 s Φ :=
  fun as G H σ x y Q c v1 v2 q => fun value slice pins st σ' v u I rx ry hs => h value slice pins st σ' H x y v u Q I rx ry (k as G H σ x y Q c v1 v2 q) hs
theorem jx_seq {e1 e' : E} {i : Int} {kd : Kd} {es : List E} (h : s.node e1 = some (kd, es)) (hk : kd = .lst ∨ kd = .tup) (ha : L2.atI es i = some e') (q : Φ e' s) : JX X F e1 (.d (.int i)) s Φ :=
  jx_of (ix_list.or ix_tup) fun as G H σ x y Q c v1 v2 k => by
    obtain ⟨a, vs, rfl, n, ves⟩ := c.node v1 h
    cases v2
    obtain ⟨v, hv, ve⟩ := ves.atI ha
    have fin := k v as G H e' s c (Ext.refl _ _) ve q
    rcases hk with rfl | rfl
    · exact .inl ⟨a, vs, i, v, rfl, rfl, n, hv, fin⟩
    · exact .inr ⟨a, vs, i, v, rfl, rfl, n, hv, fin⟩
theorem jx_str {z : Str} {i : Int} {cp : Nat} (hz : z.length ≤ sizeLine) (ha : L2.atI z.cps.toList i = some cp) (q : Φ (.d (.str ⟨#[cp]⟩)) s) : JX X F (.d (.str z)) (.d (.int i)) s Φ :=
  jx_of ix_str fun as G H σ x y Q c v1 v2 k => by
    cases v1
    cases v2
    exact ⟨z, i, cp, rfl, rfl, hz, ha, k _ as G H _ s c (Ext.refl _ _) (Rep.str _) q⟩
/-- a key -/
def keyE : E → Option Key
  | .d (.int i) => some (.inl i)
  | .d (.str x) => some (.inr x)
  | _ => none
theorem keyE_v {K : PySem.W.Frag} {G : Hp} {as : List Addr} {e : E} {k : Key} {v : V} (h : keyE e = some k) (ve : VE K G as v e) : v = kV k := by
  cases e with
  | r _ => cases h
  | d x => cases x <;> cases h <;> cases ve <;> rfl
/-- what stands at a key -/
def lk {α : Type} (kvs : List (Key × α)) (k : Key) : Option α := (kvs.find? fun kv => decide (kv.1 = k)).map (·.2)
theorem lk_val {K : PySem.W.Frag} {G : Hp} {as : List Addr} {k : Key} : ∀ {ks : List Key} {vs : List V} {es : List E}, VEs K G as vs es →
    (∀ e, lk (ks.zip es) k = some e → ∃ v, valV (ks.zip vs) k = some v ∧ VE K G as v e) ∧ (lk (ks.zip es) k = none → valV (ks.zip vs) k = none)
  | [], _, _, _ => ⟨fun e h => by simp [lk] at h, fun _ => rfl⟩
  | _ :: _, _, _, .nil => ⟨fun e h => by simp [lk] at h, fun _ => rfl⟩
  | k' :: ks, v :: vs, e :: es, .cons h t => by
    obtain ⟨h1, h2⟩ := lk_val (k := k) (ks := ks) t
    by_cases hk : k' = k
    · subst hk
      refine ⟨fun e' q => ?_, fun q => ?_⟩
      · simp [lk, List.zip_cons_cons, List.find?_cons] at q
        subst q
        exact ⟨v, by simp [valV, List.zip_cons_cons, List.find?_cons], h⟩
      · simp [lk, List.zip_cons_cons, List.find?_cons] at q
    · have e1 : lk ((k' :: ks).zip (e :: es)) k = lk (ks.zip es) k := by simp [lk, List.zip_cons_cons, List.find?_cons, hk]
      have e2 : valV ((k' :: ks).zip (v :: vs)) k = valV (ks.zip vs) k := by simp [valV, List.zip_cons_cons, List.find?_cons, hk]
      rw [e1, e2]
      exact ⟨h1, h2⟩
theorem ix_dict (hu : X.A.units + 1 < cLine) : IxR X (fun x y H Q => ∃ a v, x = .ref a ∧ DGet H a y (some v) ∧ Q v H) := by
  intro value slice pins st σ H x y v u Q I rx ry h hs
  obtain ⟨a, w, rfl, g, q⟩ := h
  obtain rfl : v = Value.ref a := rx
  exact tail_any (dict_typeIs I g) PySem.F.slot_dict_getitem.lookup (d_getItem hu I g ry fun w' s3 I3 rw' => ⟨w, H, I3, rw', q⟩) hs
theorem jx_dct {e1 e2 e' : E} {k : Key} {ks : List Key} {es : List E} (hu : X.A.units + 1 < cLine) (h : s.node e1 = some (.dct ks, es)) (hk : keyE e2 = some k) (ha : lk (ks.zip es) k = some e') (q : Φ e' s) : JX X F e1 e2 s Φ :=
  jx_of (ix_dict hu) fun as G H σ x y Q c v1 v2 kk => by
    obtain ⟨a, vs, rfl, ⟨n1, n2, od, n3⟩, ves⟩ := c.node v1 h
    obtain rfl := keyE_v hk v2
    obtain ⟨v, hv, ve⟩ := (lk_val (ks := ks) ves).1 e' ha
    exact ⟨a, v, rfl, .inl ⟨_, k, .inr ⟨od, n3⟩, rfl, hv.symm⟩, kk v as G H e' s c (Ext.refl _ _) ve q⟩
end
/-! ### operations -/
section
variable {Φ : E → S → Prop}
theorem jr_of {f : Value → Value → Sem Value} {r : R2} {e1 e2 : E} (h : OpR X f r) (k : ∀ as G H σ x y (Q : VK), Cz X F as G H σ s → VE X.K G as x e1 → VE X.K G as y e2 →
    (∀ v as' G' H' e' s', Cz X F as' G' H' σ s' → Ext as as' G G' → VE X.K G' as' v e' → Φ e' s' → Q v H') → r x y H Q) : JR X F f e1 e2 s Φ :=
  fun as G H σ x y Q c v1 v2 q => fun pins st σ' v u I rx ry => h pins st σ' H x y v u Q I rx ry (k as G H σ x y Q c v1 v2 q)
/-- an operation on scalars that gives a scalar -/
theorem jr_ii {f : Value → Value → Sem Value} {C : Int → Int → Prop} {g : Int → Int → V} {i j : Int} {d : D} (h : OpR X f (rI C g)) (hc : C i j) (hd : Rep X.K (fun _ => none) (g i j) d) (q : Φ (.d d) s) : JR X F f (.d (.int i)) (.d (.int j)) s Φ :=
  jr_of h fun as G H σ x y Q c v1 v2 k => by
    cases v1
    cases v2
    exact ⟨i, j, rfl, rfl, hc, k _ as G H _ s c (Ext.refl _ _) (hd.mono (by intro _ _ z; cases z)) q⟩
theorem jr_i0 {f : Value → Value → Sem Value} {g : Int → Int → V} {i j : Int} {d : D} (h : OpR X f (rI0 g)) (hd : Rep X.K (fun _ => none) (g i j) d) (q : Φ (.d d) s) : JR X F f (.d (.int i)) (.d (.int j)) s Φ :=
  jr_of h fun as G H σ x y Q c v1 v2 k => by
    cases v1
    cases v2
    exact ⟨i, j, rfl, rfl, k _ as G H _ s c (Ext.refl _ _) (hd.mono (by intro _ _ z; cases z)) q⟩
variable {i j : Int}
theorem jr_add (q : Φ (.d (.int (i + j))) s) : JR X F (binaryOp .Add) (.d (.int i)) (.d (.int j)) s Φ := jr_i0 op_add (.int _) q
theorem jr_sub (q : Φ (.d (.int (i - j))) s) : JR X F (binaryOp .Sub) (.d (.int i)) (.d (.int j)) s Φ := jr_i0 op_sub (.int _) q
theorem jr_mul (hc : CMul i j ∨ CMulW i j) (q : Φ (.d (.int (i * j))) s) : JR X F (binaryOp .Mult) (.d (.int i)) (.d (.int j)) s Φ := by
  rcases hc with hc | hc
  · exact jr_ii op_mul hc (.int _) q
  · exact jr_ii op_mulW hc (.int _) q
theorem jr_fdiv (hc : CDiv i j ∨ CDivW i j) (q : Φ (.d (.int (i / j))) s) : JR X F (binaryOp .FloorDiv) (.d (.int i)) (.d (.int j)) s Φ := by
  rcases hc with hc | hc
  · exact jr_ii op_fdiv hc (.int _) q
  · exact jr_ii op_fdivW hc (.int _) q
theorem jr_mod (hc : 0 < j) (q : Φ (.d (.int (i % j))) s) : JR X F (binaryOp .Mod) (.d (.int i)) (.d (.int j)) s Φ := jr_ii op_mod hc (.int _) q
theorem jr_pow (hc : CPow i j) (q : Φ (.d (.int (i ^ j.toNat))) s) : JR X F (binaryOp .Pow) (.d (.int i)) (.d (.int j)) s Φ := jr_ii op_pow hc (.int _) q
theorem jr_shr (hc : 0 ≤ j) (q : Φ (.d (.int (i / 2 ^ j.toNat))) s) : JR X F (binaryOp .RShift) (.d (.int i)) (.d (.int j)) s Φ := jr_ii op_shr hc (.int _) q
theorem jr_shl (hc : CPow i j) (q : Φ (.d (.int (i * 2 ^ j.toNat))) s) : JR X F (binaryOp .LShift) (.d (.int i)) (.d (.int j)) s Φ := jr_ii op_shl hc (.int _) q
theorem jr_band (q : Φ (.d (.int (Builtin.bitAnd i j))) s) : JR X F (binaryOp .BitAnd) (.d (.int i)) (.d (.int j)) s Φ := jr_i0 op_and (.int _) q
theorem jr_bxor (q : Φ (.d (.int (Builtin.bitXor i j))) s) : JR X F (binaryOp .BitXor) (.d (.int i)) (.d (.int j)) s Φ := jr_i0 op_xor (.int _) q
theorem jr_lt (q : Φ (.d (.bl (decide (i < j)))) s) : JR X F (compareOp .Lt) (.d (.int i)) (.d (.int j)) s Φ := jr_i0 op_lt (.bl _) q
theorem jr_le (q : Φ (.d (.bl (decide (i ≤ j)))) s) : JR X F (compareOp .LtE) (.d (.int i)) (.d (.int j)) s Φ := jr_i0 op_le (.bl _) q
theorem jr_gt (q : Φ (.d (.bl (decide (j < i)))) s) : JR X F (compareOp .Gt) (.d (.int i)) (.d (.int j)) s Φ := jr_i0 op_gt (.bl _) q
theorem jr_ge (q : Φ (.d (.bl (decide (j ≤ i)))) s) : JR X F (compareOp .GtE) (.d (.int i)) (.d (.int j)) s Φ := jr_i0 op_ge (.bl _) q
theorem jr_adds {x y : Str} (hz : x.length + y.length ≤ sizeLine) (q : Φ (.d (.str (x ++ y))) s) : JR X F (binaryOp .Add) (.d (.str x)) (.d (.str y)) s Φ :=
  jr_of op_add_str fun as G H σ _ _ Q c v1 v2 k => by
    cases v1
    cases v2
    exact ⟨x, y, rfl, rfl, hz, k _ as G H _ s c (Ext.refl _ _) (Rep.str _) q⟩
/-- == and != of scalars -/
def vD : D → V
  | .non => .non | .bl b => .bl b | .int i => .int i | .str x => .str x | .nd _ _ => .ref 0
theorem vD_of {K : PySem.W.Frag} {G : Hp} {v : V} {d : D} (h : Rep K G v d) (hn : ∀ k ds, d ≠ .nd k ds) : v = vD d := by
  cases h with
  | nd _ _ => exact absurd rfl (hn _ _)
  | _ => rfl
theorem scal_nd {d e : D} (h : scal (vD d) (vD e) = true) : (∀ k ds, d ≠ .nd k ds) ∧ ∀ k ds, e ≠ .nd k ds := by
  refine ⟨fun k ds q => ?_, fun k ds q => ?_⟩
  · subst q; cases e <;> cases h
  · subst q; cases d <;> cases h
theorem jr_eq {d e : D} (hs : scal (vD d) (vD e) = true) (q : Φ (.d (.bl (decide (vD d = vD e)))) s) : JR X F (compareOp .Eq) (.d d) (.d e) s Φ :=
  jr_of op_eq fun as G H σ x y Q c v1 v2 k => by
    obtain ⟨n1, n2⟩ := scal_nd hs
    obtain rfl := vD_of v1 n1
    obtain rfl := vD_of v2 n2
    exact ⟨hs, k _ as G H _ s c (Ext.refl _ _) (Rep.bl _) q⟩
theorem jr_ne {d e : D} (hs : scal (vD d) (vD e) = true) (q : Φ (.d (.bl (!decide (vD d = vD e)))) s) : JR X F (compareOp .NotEq) (.d d) (.d e) s Φ :=
  jr_of op_ne fun as G H σ x y Q c v1 v2 k => by
    obtain ⟨n1, n2⟩ := scal_nd hs
    obtain rfl := vD_of v1 n1
    obtain rfl := vD_of v2 n2
    exact ⟨hs, k _ as G H _ s c (Ext.refl _ _) (Rep.bl _) q⟩
theorem dv_int {i j : Int} : decide (vD (.int i) = vD (.int j)) = decide (i = j) := by simp [vD]
theorem dv_str {i j : Str} : decide (vD (.str i) = vD (.str j)) = decide (i = j) := by simp [vD]
theorem dv_bl {i j : Bool} : decide (vD (.bl i) = vD (.bl j)) = decide (i = j) := by simp [vD]
theorem jr_eqi (q : Φ (.d (.bl (decide (i = j)))) s) : JR X F (compareOp .Eq) (.d (.int i)) (.d (.int j)) s Φ :=
  jr_eq rfl (by rw [dv_int]; exact q)
theorem jr_nei (q : Φ (.d (.bl (!decide (i = j)))) s) : JR X F (compareOp .NotEq) (.d (.int i)) (.d (.int j)) s Φ :=
  jr_ne rfl (by rw [dv_int]; exact q)
theorem jr_eqs {x y : Str} (q : Φ (.d (.bl (decide (x = y)))) s) : JR X F (compareOp .Eq) (.d (.str x)) (.d (.str y)) s Φ :=
  jr_eq rfl (by rw [dv_str]; exact q)
theorem jr_nes {x y : Str} (q : Φ (.d (.bl (!decide (x = y)))) s) : JR X F (compareOp .NotEq) (.d (.str x)) (.d (.str y)) s Φ :=
  jr_ne rfl (by rw [dv_str]; exact q)
theorem jr_eqb {x y : Bool} (q : Φ (.d (.bl (decide (x = y)))) s) : JR X F (compareOp .Eq) (.d (.bl x)) (.d (.bl y)) s Φ :=
  jr_eq rfl (by rw [dv_bl]; exact q)
theorem jr_neb {x y : Bool} (q : Φ (.d (.bl (!decide (x = y)))) s) : JR X F (compareOp .NotEq) (.d (.bl x)) (.d (.bl y)) s Φ :=
  jr_ne rfl (by rw [dv_bl]; exact q)
/-- is None -/
def isNon : E → Bool
  | .d .non => true
  | _ => false
theorem isNon_v {K : PySem.W.Frag} {G : Hp} {as : List Addr} {v : V} {e : E} (h : VE K G as v e) : decide (v = .non) = isNon e := by
  cases e with
  | r _ => obtain ⟨a, _, rfl⟩ := h; rfl
  | d x => cases h <;> rfl
theorem jr_isN {e : E} (q : Φ (.d (.bl (isNon e))) s) : JR X F (compareOp .Is) e (.d .non) s Φ :=
  jr_of op_isN fun as G H σ x y Q c v1 v2 k => by
    cases v2
    exact ⟨rfl, by rw [isNon_v v1]; exact k _ as G H _ s c (Ext.refl _ _) (Rep.bl _) q⟩
theorem jr_notN {e : E} (q : Φ (.d (.bl (!isNon e))) s) : JR X F (compareOp .IsNot) e (.d .non) s Φ :=
  jr_of op_notN fun as G H σ x y Q c v1 v2 k => by
    cases v2
    exact ⟨rfl, by rw [isNon_v v1]; exact k _ as G H _ s c (Ext.refl _ _) (Rep.bl _) q⟩
/-- is True, is False: a bool is itself, anything else is not -/
def isBl (b : Bool) : E → Bool
  | .d (.bl c) => decide (c = b)
  | _ => false
theorem op_isBool : OpR X (compareOp .Is) (fun x y H Q => ∃ b : Bool, y = .bl b ∧ Q (.bl (decide (x = .bl b))) H) := by
  intro pins st σ H x y v u Q I rx ry h
  obtain ⟨b, rfl, q⟩ := h
  cases (show u = Value.bool b from ry)
  have oth : ∀ {v : Value}, RelV x v → x ≠ .bl b → wpAny (model X.prog X.w) X.A (compareOp .Is v (.bool b)) (EP X pins σ Q) X.xe st := fun {v} r ne => by
    have fin : EP X pins σ Q (.bool false) st := ⟨.bl false, H, I, rfl, by rw [decide_eq_false ne] at q; exact q⟩
    cases x with
    | non => cases r; exact wpAny_is_other rfl (fun z => by cases z) fin
    | bl c => cases r; exact wpAny_is_other rfl (fun z => ne (by rw [Value.bool.inj z])) fin
    | int i => obtain ⟨t, rfl⟩ := r; exact wpAny_is_other rfl (fun z => by cases z) fin
    | str i => obtain ⟨t, rfl⟩ := r; exact wpAny_is_other rfl (fun z => by cases z) fin
    | byt i => obtain ⟨t, rfl⟩ := r; exact wpAny_is_other rfl (fun z => by cases z) fin
    | flt i => obtain ⟨t, rfl⟩ := r; exact wpAny_is_other rfl (fun z => by cases z) fin
    | ref a => cases r; exact wpAny_is_other rfl (fun z => by cases z) fin
    | ty n => cases r; exact wpAny_is_other rfl (fun z => by cases z) fin
  by_cases e : x = .bl b
  · subst e
    cases (show v = Value.bool b from rx)
    exact wpAny_is_self rfl ⟨.bl true, H, I, rfl, by simpa using q⟩
  · exact oth rx e
end
end DL
namespace DL
open PySem PySem.Spec PyProof.Rows L2
variable {X : Cx} {F : Fr} {s : S}
/-! ### states: more frozen, more owned, frozen now -/
theorem same_upd {G H : Hp} {p : Addr} {o : HO} (e : Same G H) : Same (upd G p o) (upd H p o) := fun b u h => by
  by_cases hb : b = p
  · subst hb; rw [upd_same] at h ⊢; exact h
  · rw [upd_ne hb] at h ⊢; exact e b u h
theorem same_new {G : Hp} {p : Addr} {o : HO} (h : G p = none) : Same G (upd G p o) := fun b u q => by
  rw [upd_ne (ne_of_none q h)]; exact q
section
variable {as : List Addr} {G H : Hp} {σ : L2.St}
theorem Cz.gnone (c : Cz X F as G H σ s) {p : Addr} (h : H p = none) : G p = none := by
  cases q : G p with
  | none => rfl
  | some o => have := c.sub p o q; rw [h] at this; cases this
theorem Cz.notin (c : Cz X F as G H σ s) {p : Addr} (h : H p = none) : p ∉ as := fun z => c.there p z h
theorem Cz.h0none (c : Cz X F as G H σ s) {p : Addr} (h : H p = none) : F.H0 p = none := by
  cases q : F.H0 p with
  | none => rfl
  | some o =>
    by_cases hA : p ∈ F.A0
    · exact absurd (c.pre.subset hA) (c.notin h)
    · have := c.frame p o q hA; rw [h] at this; cases this
/-- a new frozen object -/
theorem Cz.addG (c : Cz X F as G H σ s) {p : Addr} {o : HO} (h : H p = none) : Cz X F as (upd G p o) (upd H p o) σ s := by
  have gn := c.gnone h
  have sg : Same G (upd G p o) := same_new gn
  have ni := c.notin h
  refine ⟨same_upd c.sub, c.base.trans sg, fun b h1 h2 => ?_, fun b u h1 h2 => ?_, c.len, c.pre, c.nd, fun k a kd es h1 h2 => ?_, c.fresh, fun a ha => ?_, fun k kd es hk => ?_, fun i e he => ?_, c.slen, c.har⟩
  · have hb : b ≠ p := fun z => by rw [z] at h2; exact h2 (c.h0none h)
    rw [upd_ne hb]; exact c.new b h1 h2
  · have q := c.frame b u h1 h2
    rw [upd_ne (ne_of_none q h)]; exact q
  · have ha : a ≠ p := fun z => ni (by rw [← z]; exact List.mem_of_getElem? h1)
    rw [upd_ne ha]; exact c.own k a kd es h1 h2
  · rw [upd_ne (fun z => ni (by rw [← z]; exact ha))]; exact c.there a ha
  · obtain ⟨a, vs, h1, h2, h3⟩ := c.cells k kd es hk
    exact ⟨a, vs, h1, h2.keep fun u q => by rw [upd_ne (ne_of_none q h)]; exact q, h3.mono (List.prefix_refl _) sg⟩
  · obtain ⟨v, h1, h2⟩ := c.slots i e he
    exact ⟨v, h1, h2.mono (List.prefix_refl _) sg⟩
def S.push (s : S) (kd : Kd) (es : List E) : S := ⟨s.sl, s.ce ++ [.nd kd es], s.ar⟩
theorem pre_snoc {as : List Addr} {p : Addr} : as <+: as ++ [p] := ⟨[p], rfl⟩
/-- a new owned object -/
theorem Cz.addO (c : Cz X F as G H σ s) {p : Addr} {o : HO} {kd : Kd} {vs : List V} {es : List E} (h : H p = none) (hc : CellAt (upd H p o) p vs kd) (hv : VEs X.K G as vs es) : Cz X F (as ++ [p]) G (upd H p o) σ (s.push kd es) := by
  have gn := c.gnone h
  have ni := c.notin h
  have pr : as <+: as ++ [p] := pre_snoc
  have at_ : ∀ {k : Nat} {a : Addr}, (as ++ [p])[k]? = some a → (k < as.length ∧ as[k]? = some a) ∨ (k = as.length ∧ a = p) := fun {k a} q => by
    by_cases hk : k < as.length
    · rw [List.getElem?_append_left hk] at q; exact .inl ⟨hk, q⟩
    · rw [List.getElem?_append_right (by omega)] at q
      have hk0 : k - as.length = 0 := by
        have := (List.getElem?_eq_some_iff.mp q).1
        simp at this
        exact this
      rw [hk0] at q
      exact .inr ⟨by omega, (Option.some.inj q).symm⟩
  have cet : ∀ {k : Nat} {cl : Cell}, (s.push kd es).ce[k]? = some cl → (k < as.length ∧ s.ce[k]? = some cl) ∨ (k = as.length ∧ cl = .nd kd es) := fun {k cl} q => by
    have q : (s.ce ++ [.nd kd es])[k]? = some cl := q
    by_cases hk : k < as.length
    · rw [List.getElem?_append_left (by rw [← c.len]; exact hk)] at q; exact .inl ⟨hk, q⟩
    · rw [List.getElem?_append_right (by rw [← c.len]; omega)] at q
      have hk0 : k - s.ce.length = 0 := by
        have := (List.getElem?_eq_some_iff.mp q).1
        simp at this
        exact this
      rw [hk0] at q
      exact .inr ⟨by rw [c.len]; have := c.len; omega, (Option.some.inj q).symm⟩
  refine ⟨fun b u q => ?_, c.base, c.new, fun b u h1 h2 => ?_, ?_, c.pre.trans pr, ?_, fun k a kd' es' h1 h2 => ?_, fun a ha => ?_, fun a ha => ?_, fun k kd' es' hk => ?_, fun i e he => ?_, c.slen, c.har⟩
  · rw [upd_ne (ne_of_none q gn)]; exact c.sub b u q
  · have q := c.frame b u h1 h2
    rw [upd_ne (ne_of_none q h)]; exact q
  · show (as ++ [p]).length = (s.ce ++ [Cell.nd kd es]).length
    rw [List.length_append, List.length_append, c.len]; rfl
  · rw [List.nodup_append]
    exact ⟨c.nd, by simp, fun a ha b hb => by
      have : b = p := by simpa using hb
      subst this
      exact fun z => ni (z ▸ ha)⟩
  · rcases at_ h1 with ⟨hk, q⟩ | ⟨hk, rfl⟩
    · rcases cet h2 with ⟨_, q2⟩ | ⟨hk2, _⟩
      · exact c.own k a _ _ q q2
      · omega
    · exact gn
  · rcases List.mem_append.mp ha with ha | ha
    · exact c.fresh a ha
    · have : a = p := by simpa using ha
      subst this
      exact .inr (c.h0none h)
  · rcases List.mem_append.mp ha with ha | ha
    · rw [upd_ne (fun z => ni (by rw [← z]; exact ha))]; exact c.there a ha
    · have : a = p := by simpa using ha
      subst this
      rw [upd_same]
      exact fun z => by cases z
  · rcases cet hk with ⟨hlt, q⟩ | ⟨hk2, q⟩
    · obtain ⟨a, ws, h1, h2, h3⟩ := c.cells k kd' es' q
      exact ⟨a, ws, pre_get pr h1, h2.keep fun u q => by rw [upd_ne (ne_of_none q h)]; exact q, h3.mono pr (Same.refl _)⟩
    · cases q
      subst hk2
      exact ⟨p, vs, by rw [List.getElem?_append_right (Nat.le_refl _)]; simp, hc, hv.mono pr (Same.refl _)⟩
  · obtain ⟨v, h1, h2⟩ := c.slots i e he
    exact ⟨v, h1, h2.mono pr (Same.refl _)⟩
/-! freezing the cell k -/
def E.fz (k : Nat) (x : D) : E → E
  | .d y => .d y
  | .r j => if j == k then .d x else .r j
def Cell.fz (k : Nat) (x : D) : Cell → Cell
  | .gone => .gone
  | .nd kd es => .nd kd (es.map (E.fz k x))
def S.fz (s : S) (k : Nat) (x : D) : S := ⟨s.sl.map (Option.map (E.fz k x)), (setN s.ce k .gone).map (Cell.fz k x), s.ar⟩
theorem Cz.fz (c : Cz X F as G H σ s) {k : Nat} {kd : Kd} {ds : List D} (hk : nth s.ce k = some (.nd kd (ds.map .d))) (hkd : ∀ C fs, kd ≠ .ins C fs) (ha : s.ar ≤ k) :
    ∃ a G', as[k]? = some a ∧ Ext as as G G' ∧ Cz X F as G' H σ (s.fz k (.nd kd ds)) ∧ Rep X.K G' (.ref a) (.nd kd ds) := by
  rw [nth_eq] at hk
  obtain ⟨a, vs, h1, h2, h3⟩ := c.cells k _ _ hk
  obtain ⟨o, ho⟩ := h2.some
  have gn : G a = none := c.own k a _ _ h1 hk
  have sg : Same G (upd G a o) := same_new gn
  have inj : ∀ {j : Nat} {b : Addr}, as[j]? = some b → b = a → j = k := fun {j b} q e => by
    subst e
    obtain ⟨l1, e1⟩ := List.getElem?_eq_some_iff.mp q
    obtain ⟨l2, e2⟩ := List.getElem?_eq_some_iff.mp h1
    exact (List.getElem_inj c.nd).mp (e1.trans e2.symm)
  have nA : a ∉ F.A0 := fun z => by
    obtain ⟨j, hj⟩ := List.getElem?_of_mem z
    have q := pre_get c.pre hj
    have := inj q rfl
    have l := (List.getElem?_eq_some_iff.mp hj).1
    rw [c.har] at l
    omega
  have h0 : F.H0 a = none := (c.fresh a (List.mem_of_getElem? h1)).resolve_left nA
  have rep : Rep X.K (upd G a o) (.ref a) (.nd kd ds) := by
    refine .nd ?_ (h3.reps.mono sg)
    have : CellAt (upd G a o) a vs kd := h2.keep fun u q => by rw [upd_same, ← ho, q]
    exact this.node
  have vz : ∀ {v : V} {e : E}, VE X.K G as v e → VE X.K (upd G a o) as v (e.fz k (.nd kd ds)) := fun {v e} q => by
    cases e with
    | d y => exact Rep.mono sg q
    | r j =>
      obtain ⟨b, q1, q2⟩ := q
      show VE X.K (upd G a o) as v (if (j == k) = true then .d (.nd kd ds) else .r j)
      by_cases hj : j = k
      · subst hj
        rw [if_pos (by simp)]
        rw [h1] at q1
        cases q1
        rw [q2]
        exact rep
      · rw [if_neg (by simpa using hj)]
        exact ⟨b, q1, q2⟩
  have vzs : ∀ {vs : List V} {es : List E}, VEs X.K G as vs es → VEs X.K (upd G a o) as vs (es.map (E.fz k (.nd kd ds))) := by
    intro vs es h
    induction h with
    | nil => exact .nil
    | cons h _ ih => exact .cons (vz h) ih
  have cel : ∀ {j : Nat} {kd' : Kd} {es' : List E}, (s.fz k (.nd kd ds)).ce[j]? = some (.nd kd' es') → j ≠ k ∧ ∃ es, s.ce[j]? = some (.nd kd' es) ∧ es' = es.map (E.fz k (.nd kd ds)) := fun {j kd' es'} q => by
    have q : ((setN s.ce k .gone).map (Cell.fz k (.nd kd ds)))[j]? = some (.nd kd' es') := q
    rw [setN_eq, List.getElem?_map] at q
    by_cases hj : j = k
    · subst hj
      have l := (List.getElem?_eq_some_iff.mp hk).1
      rw [List.getElem?_set_self l] at q
      cases q
    · rw [List.getElem?_set_ne (fun z => hj z.symm)] at q
      cases e : s.ce[j]? with
      | none => rw [e] at q; cases q
      | some cl =>
        rw [e] at q
        cases cl with
        | gone => cases q
        | nd k2 es2 =>
          cases q
          exact ⟨hj, es2, rfl, rfl⟩
  refine ⟨a, upd G a o, h1, ⟨List.prefix_refl _, sg⟩, ⟨fun b u q => ?_, c.base.trans sg, fun b q1 q2 => ?_, c.frame, ?_, c.pre, c.nd, fun j b kd' es' q1 q2 => ?_, c.fresh, c.there, fun j kd' es' q => ?_, fun i e he => ?_, ?_, c.har⟩, rep⟩
  · by_cases hb : b = a
    · subst hb
      rw [upd_same] at q
      rw [ho, ← q]
    · rw [upd_ne hb] at q
      exact c.sub b u q
  · have hb : b ≠ a := fun z => by rw [z] at q2; exact q2 h0
    rw [upd_ne hb]
    exact c.new b q1 q2
  · show as.length = ((setN s.ce k .gone).map _).length
    rw [List.length_map, setN_eq, List.length_set]
    exact c.len
  · obtain ⟨hj, es, q3, _⟩ := cel q2
    have hb : b ≠ a := fun z => hj (inj q1 z)
    rw [upd_ne hb]
    exact c.own j b _ _ q1 q3
  · obtain ⟨hj, es, q3, rfl⟩ := cel q
    obtain ⟨b, ws, w1, w2, w3⟩ := c.cells j _ _ q3
    exact ⟨b, ws, w1, w2, vzs w3⟩
  · have he : (s.sl.map (Option.map (E.fz k (.nd kd ds))))[i]? = some (some e) := he
    rw [List.getElem?_map] at he
    cases q : s.sl[i]? with
    | none => rw [q] at he; cases he
    | some oe =>
      rw [q] at he
      cases oe with
      | none => cases he
      | some e0 =>
        cases he
        obtain ⟨v, w1, w2⟩ := c.slots i e0 q
        exact ⟨v, w1, vz w2⟩
  · show (s.sl.map _).length = σ.length
    rw [List.length_map]
    exact c.slen
/-- the cell k is written -/
def S.put (s : S) (k : Nat) (kd : Kd) (es : List E) : S := ⟨s.sl, setN s.ce k (.nd kd es), s.ar⟩
theorem Cz.put (c : Cz X F as G H σ s) {k : Nat} {a : Addr} {kd kd0 : Kd} {es0 es : List E} {vs : List V} {o : HO} (hk : s.ce[k]? = some (.nd kd0 es0)) (h1 : as[k]? = some a) (hc : CellAt (upd H a o) a vs kd) (hv : VEs X.K G as vs es) :
    Cz X F as G (upd H a o) σ (s.put k kd es) := by
  have gn : G a = none := c.own k a _ _ h1 hk
  have inj : ∀ {j : Nat} {b : Addr}, as[j]? = some b → b = a → j = k := fun {j b} q e => by
    subst e
    obtain ⟨l1, e1⟩ := List.getElem?_eq_some_iff.mp q
    obtain ⟨l2, e2⟩ := List.getElem?_eq_some_iff.mp h1
    exact (List.getElem_inj c.nd).mp (e1.trans e2.symm)
  have am := List.mem_of_getElem? h1
  refine ⟨fun b u q => ?_, c.base, c.new, fun b u q1 q2 => ?_, ?_, c.pre, c.nd, fun j b kd' es' q1 q2 => ?_, c.fresh, fun b hb => ?_, fun j kd' es' q => ?_, c.slots, c.slen, c.har⟩
  · rw [upd_ne (ne_of_none q gn)]; exact c.sub b u q
  · have hb : b ≠ a := fun z => by
      subst z
      rcases c.fresh b am with z | z
      · exact q2 z
      · rw [z] at q1; cases q1
    rw [upd_ne hb]; exact c.frame b u q1 q2
  · show as.length = (setN s.ce k _).length
    rw [setN_eq, List.length_set]; exact c.len
  · have q2 : (setN s.ce k (.nd kd es))[j]? = some (.nd kd' es') := q2
    rw [setN_eq] at q2
    by_cases hj : j = k
    · subst hj
      rw [h1] at q1
      cases q1
      exact gn
    · rw [List.getElem?_set_ne (fun z => hj z.symm)] at q2
      exact c.own j b _ _ q1 q2
  · by_cases hb' : b = a
    · subst hb'; rw [upd_same]; exact fun z => by cases z
    · rw [upd_ne hb']; exact c.there b hb
  · have q : (setN s.ce k (.nd kd es))[j]? = some (.nd kd' es') := q
    rw [setN_eq] at q
    by_cases hj : j = k
    · subst hj
      rw [List.getElem?_set_self (List.getElem?_eq_some_iff.mp hk).1] at q
      cases q
      exact ⟨a, vs, h1, hc, hv⟩
    · rw [List.getElem?_set_ne (fun z => hj z.symm)] at q
      obtain ⟨b, ws, w1, w2, w3⟩ := c.cells j _ _ q
      have hb : b ≠ a := fun z => hj (inj w1 z)
      exact ⟨b, ws, w1, w2.keep fun u z => by rw [upd_ne hb]; exact z, w3⟩
/-- a slot is stored -/
def S.set (s : S) (i : Nat) (e : E) : S := ⟨setN s.sl i (some e), s.ce, s.ar⟩
theorem Cz.set (c : Cz X F as G H σ s) {i : Nat} {v : V} {e : E} (h : VE X.K G as v e) : Cz X F as G H (σ.set i (some v)) (s.set i e) := by
  refine ⟨c.sub, c.base, c.new, c.frame, c.len, c.pre, c.nd, c.own, c.fresh, c.there, c.cells, fun j e' he => ?_, ?_, c.har⟩
  · have he : (setN s.sl i (some e))[j]? = some (some e') := he
    rw [setN_eq] at he
    by_cases hj : j = i
    · subst hj
      by_cases hl : j < s.sl.length
      · rw [List.getElem?_set_self hl] at he
        cases he
        exact ⟨v, by rw [List.getElem?_set_self (by rw [← c.slen]; exact hl)], h⟩
      · rw [List.getElem?_eq_none (by simpa using Nat.le_of_not_lt hl)] at he
        cases he
    · rw [List.getElem?_set_ne (fun z => hj z.symm)] at he
      obtain ⟨w, w1, w2⟩ := c.slots j e' he
      exact ⟨w, by rw [List.getElem?_set_ne (fun z => hj z.symm)]; exact w1, w2⟩
  · show (setN s.sl i (some e)).length = (σ.set i (some v)).length
    rw [setN_eq, List.length_set, List.length_set]
    exact c.slen
/-- less is told: slots forgotten, the cells behind dropped -/
structure Wk (p q : S) : Prop where
  sl : ∀ (i : Nat) (e : E), q.sl[i]? = some (some e) → p.sl[i]? = some (some e)
  len : q.sl.length = p.sl.length
  ce : q.ce <+: p.ce
  ar : q.ar = p.ar
  fit : q.ar ≤ q.ce.length
def E.lt (n : Nat) : E → Bool
  | .d _ => true
  | .r k => decide (k < n)
theorem Cz.weak {s' : S} (c : Cz X F as G H σ s) (w : Wk s s') (h1 : ∀ (i : Nat) (e : E), s'.sl[i]? = some (some e) → e.lt s'.ce.length = true) (h2 : ∀ (k : Nat) (kd : Kd) (es : List E), s'.ce[k]? = some (.nd kd es) → ∀ e ∈ es, E.lt s'.ce.length e = true) :
    Cz X F (as.take s'.ce.length) G H σ s' := by
  have le : s'.ce.length ≤ as.length := by rw [c.len]; exact w.ce.length_le
  have gt : ∀ {k : Nat} {a : Addr}, (as.take s'.ce.length)[k]? = some a → as[k]? = some a := fun {k a} q => by
    have l := (List.getElem?_eq_some_iff.mp q).1
    rw [List.length_take] at l
    rw [List.getElem?_take_of_lt (by omega)] at q
    exact q
  have tg : ∀ {k : Nat} {a : Addr}, k < s'.ce.length → as[k]? = some a → (as.take s'.ce.length)[k]? = some a := fun {k a} l q => by
    rw [List.getElem?_take_of_lt l]; exact q
  have ve : ∀ {v : V} {e : E}, VE X.K G as v e → e.lt s'.ce.length = true → VE X.K G (as.take s'.ce.length) v e := fun {v e} q l => by
    cases e with
    | d x => exact q
    | r k =>
      obtain ⟨a, q1, q2⟩ := q
      exact ⟨a, tg (by simpa [E.lt] using l) q1, q2⟩
  have ves : ∀ {vs : List V} {es : List E}, VEs X.K G as vs es → (∀ e ∈ es, E.lt s'.ce.length e = true) → VEs X.K G (as.take s'.ce.length) vs es := by
    intro vs es h
    induction h with
    | nil => intro _; exact .nil
    | cons h _ ih => intro l; exact .cons (ve h (l _ List.mem_cons_self)) (ih fun e he => l e (List.mem_cons_of_mem _ he))
  have pf : F.A0 <+: as.take s'.ce.length := by
    obtain ⟨t, ht⟩ := c.pre
    have hl : F.A0.length ≤ s'.ce.length := by rw [c.har, ← w.ar]; exact w.fit
    refine ⟨t.take (s'.ce.length - F.A0.length), ?_⟩
    rw [← ht, List.take_append, List.take_of_length_le hl]
  refine ⟨c.sub, c.base, c.new, c.frame, by rw [List.length_take]; omega, pf, c.nd.sublist (List.take_sublist _ _), fun k a kd es q1 q2 => c.own k a kd es (gt q1) (pre_get w.ce q2), fun a ha => c.fresh a (List.mem_of_mem_take ha), fun a ha => c.there a (List.mem_of_mem_take ha), fun k kd es q => ?_, fun i e he => ?_, by rw [w.len]; exact c.slen, by rw [w.ar]; exact c.har⟩
  · obtain ⟨a, vs, q1, q2, q3⟩ := c.cells k kd es (pre_get w.ce q)
    exact ⟨a, vs, tg (List.getElem?_eq_some_iff.mp q).1 q1, q2, ves q3 (h2 k kd es q)⟩
  · obtain ⟨v, q1, q2⟩ := c.slots i e (w.sl i e he)
    exact ⟨v, q1, ve q2 (h1 i e he)⟩
end
end DL
namespace DL
open PySem PySem.Spec PyProof.Rows L2
variable {X : Cx} {F : Fr} {s : S}
/-! ### a context: what every rule asks -/
structure Bx (X : Cx) (k : Nat) : Prop where
  calm : X.calm = true
  nd : X.N.Nodup
  po : PassesOwn (model X.prog X.w) X.A X.env X.xe
  room : Room k X.A
theorem Bx.hu {k : Nat} (B : Bx X k) : X.A.units + 1 < cLine := hu_of B.room
structure GlB (X : Cx) (x : Str) : Prop where
  gl : Gl X x
  mg : X.mg x = none
structure NmW (X : Cx) (i : Nat) (x : Str) : Prop where
  nm : X.N[i]? = some x
  nd : X.N.Nodup
  loc : Loc X.env.scope x
  hf : X.fn x = true ∨ X.env.scope.names.lookup x = some .local
/-! ### builtins -/
def NoStar (e : Expr) : Prop := ∀ (es : List Expr) (env : Env), starEach (e :: es) env = (false, eval e env) :: starEach es env
section
variable {e a b c : Expr} {es rest : List Expr} {Φ : E → S → Prop} {Ψ : Bool → S → Prop} {pos p p2 : Pos} {x : Str} {id T : String} {r : List V → Hp → VK → Prop}
theorem je_cb (hc : CallR X (.builtin id) r) (g : GlB X x) (hv : bootBuiltins x = some (.builtin id)) (h : JA X F (a :: es) s fun vs s1 => JV X F r vs s1 Φ) (hn : x ≠ "__name__" := by decide) (hdb : (x == ("__debug__" : Str)) = false := by decide)
    (he : starEach (a :: es) X.env = (false, eval a X.env) :: starEach es X.env := by rfl) (hpl : (backTo pos (starEach es X.env)).any (·.1) = false := by rfl) : JE X F (.Call (.Name x p) (a :: es) [] pos) s Φ :=
  je_of (pe_callB hc g.gl g.mg hv (pa_sem X _) hn hdb he hpl) fun as G H σ Q c k => h as G H σ _ c fun vs as1 G1 H1 es1 s1 c1 x1 ves h1 => h1 as1 G1 H1 σ vs Q c1 ves fun v as' G' H' e' s' c' x ve q => k v as' G' H' e' s' c' (x1.trans x) ve q
theorem je_ct (hc : CallR X (.type T) r) (g : GlB X x) (hv : bootBuiltins x = some (.type T)) (h : JA X F (a :: es) s fun vs s1 => JV X F r vs s1 Φ) (hn : x ≠ "__name__" := by decide) (hdb : (x == ("__debug__" : Str)) = false := by decide)
    (he : starEach (a :: es) X.env = (false, eval a X.env) :: starEach es X.env := by rfl) (hpl : (backTo pos (starEach es X.env)).any (·.1) = false := by rfl) : JE X F (.Call (.Name x p) (a :: es) [] pos) s Φ :=
  je_of (pe_callTy hc g.gl g.mg hv (pa_sem X _) hn hdb he hpl) fun as G H σ Q c k => h as G H σ _ c fun vs as1 G1 H1 es1 s1 c1 x1 ves h1 => h1 as1 G1 H1 σ vs Q c1 ves fun v as' G' H' e' s' c' x ve q => k v as' G' H' e' s' c' (x1.trans x) ve q
/-- len -/
def LenX (K : PySem.W.Frag) (v : V) (H : Hp) (n : Nat) : Prop := (∃ y, v = .str y ∧ y.length ≤ sizeLine ∧ n = y.length) ∨ ∃ p, v = .ref p ∧ ((∃ xs, SqL K H p xs ∧ n = xs.length) ∨ (∃ xs, SqT K H p xs ∧ n = xs.length) ∨ ∃ kvs, Rd H p (.dK kvs) ∧ n = kvs.length)
def rLen (K : PySem.W.Frag) : List V → Hp → VK → Prop := fun xs H Q => ∃ x n, xs = [x] ∧ LenX K x H n ∧ Q (.int n) H
theorem call_lenX : CallR X (.builtin "len") (rLen X.K) := by
  intro pins st σ H xs us Q I r h
  obtain ⟨x, n, rfl, e, q⟩ := h
  rcases e with ⟨y, rfl, hy, rfl⟩ | ⟨p, rfl, e⟩
  · exact call_len_str pins st σ H _ us Q I r ⟨y, rfl, hy, q⟩
  · rcases e with ⟨ys, hy, rfl⟩ | ⟨ys, hy, rfl⟩ | ⟨kvs, hy, rfl⟩
    · exact call_len_seq pins st σ H _ us Q I r ⟨p, ys, rfl, .inl hy, q⟩
    · exact call_len_seq pins st σ H _ us Q I r ⟨p, ys, rfl, .inr hy, q⟩
    · obtain ⟨u, rfl, rx⟩ := vals1 r
      obtain rfl : u = Value.ref p := rx
      exact d_len I hy fun t s' I' => ⟨.int kvs.length, H, I', ⟨_, rfl⟩, q⟩
theorem je_len (g : GlB X "len") (h : JE X F a s fun e s1 => JV X F (rLen X.K) [e] s1 Φ) (ns : NoStar a := by intro _ _; rfl) : JE X F (.Call (.Name "len" p) [a] [] pos) s Φ :=
  je_cb call_lenX g PySem.boot_len (ja_cons (h.mono fun e s1 q => ja_nil q) (ns _ _)) (he := ns _ _)
theorem jv_len_nd {e : E} {kd : Kd} {es : List E} (h : s.node e = some (kd, es)) (hk : kd.pl = true) (q : Φ (.d (.int (es.length : Int))) s) : JV X F (rLen X.K) [e] s Φ :=
  fun as G H σ vs Q c ves k => by
    cases ves with
    | cons ve t =>
      cases t
      obtain ⟨a, ws, rfl, n, we⟩ := c.node ve h
      refine ⟨_, es.length, rfl, .inr ⟨a, rfl, ?_⟩, k _ as G H _ s c (Ext.refl _ _) (Rep.int _) q⟩
      have hl := Paired.length we
      cases kd with
      | lst => exact .inl ⟨ws, n, hl.symm⟩
      | tup => exact .inr (.inl ⟨ws, n, hl.symm⟩)
      | dct ks =>
        obtain ⟨n1, n2, od, n3⟩ := n
        exact .inr (.inr ⟨_, .inr ⟨od, n3⟩, by rw [List.length_zip, n1, Nat.min_self, hl]⟩)
      | ins C fs => cases hk
      | exc a d C fs => cases hk
theorem jv_len_str {z : Str} (hz : z.length ≤ sizeLine) (q : Φ (.d (.int (z.length : Int))) s) : JV X F (rLen X.K) [.d (.str z)] s Φ :=
  fun as G H σ vs Q c ves k => by
    cases ves with
    | cons ve t =>
      cases t
      cases ve
      exact ⟨_, z.length, rfl, .inl ⟨z, rfl, hz, rfl⟩, k _ as G H _ s c (Ext.refl _ _) (Rep.int _) q⟩
/-- int(x), abs(x), str(i), min, max of two ints -/
def rInt : List V → Hp → VK → Prop := fun xs H Q => (∃ i, xs = [.int i] ∧ Q (.int i) H) ∨ ∃ k, xs = [.bl k] ∧ Q (.int (if k then 1 else 0)) H
theorem je_intc (g : GlB X "int") (h : JE X F a s fun e s1 => JV X F rInt [e] s1 Φ) (ns : NoStar a := by intro _ _; rfl) : JE X F (.Call (.Name "int" p) [a] [] pos) s Φ :=
  je_ct (r := rInt) call_int1 g PyProof.Rows.boot_int (ja_cons (h.mono fun e s1 q => ja_nil q) (ns _ _)) (he := ns _ _)
theorem jv_int_i {i : Int} (q : Φ (.d (.int i)) s) : JV X F rInt [.d (.int i)] s Φ := fun as G H σ vs Q c ves k => by
  cases ves with
  | cons ve t => cases t; cases ve; exact .inl ⟨i, rfl, k _ as G H _ s c (Ext.refl _ _) (Rep.int _) q⟩
theorem jv_int_b {i : Bool} (q : Φ (.d (.int (if i then 1 else 0))) s) : JV X F rInt [.d (.bl i)] s Φ := fun as G H σ vs Q c ves k => by
  cases ves with
  | cons ve t => cases t; cases ve; exact .inr ⟨i, rfl, k _ as G H _ s c (Ext.refl _ _) (Rep.int _) q⟩
def rAbs : List V → Hp → VK → Prop := fun xs H Q => ∃ i, xs = [.int i] ∧ Q (.int (if i < 0 then -i else i)) H
theorem je_abs (g : GlB X "abs") (h : JE X F a s fun e s1 => ∃ i, e = .d (.int i) ∧ Φ (.d (.int (if i < 0 then -i else i))) s1) (ns : NoStar a := by intro _ _; rfl) : JE X F (.Call (.Name "abs" p) [a] [] pos) s Φ :=
  je_cb (r := rAbs) call_abs g PyProof.Rows.boot_abs (ja_cons (h.mono fun e s1 ⟨i, ei, q⟩ => ja_nil fun as G H σ vs Q c ves k => by
    subst ei
    cases ves with
    | cons ve t => cases t; cases ve; exact ⟨i, rfl, k _ as G H _ s1 c (Ext.refl _ _) (Rep.int _) q⟩) (ns _ _)) (he := ns _ _)
def rStrI : List V → Hp → VK → Prop := fun xs H Q => ∃ i : Int, xs = [.int i] ∧ i.natAbs.log2 < 1920 ∧ Q (.str (toString i)) H
theorem je_stri (g : GlB X "str") (h : JE X F a s fun e s1 => ∃ i : Int, e = .d (.int i) ∧ i.natAbs.log2 < 1920 ∧ Φ (.d (.str (toString i))) s1) (ns : NoStar a := by intro _ _; rfl) : JE X F (.Call (.Name "str" p) [a] [] pos) s Φ :=
  je_ct (r := rStrI) call_str_int g PyProof.Rows.boot_str (ja_cons (h.mono fun e s1 ⟨i, ei, h1, q⟩ => ja_nil fun as G H σ vs Q c ves k => by
    subst ei
    cases ves with
    | cons ve t => cases t; cases ve; exact ⟨i, rfl, h1, k _ as G H _ s1 c (Ext.refl _ _) (Rep.str _) q⟩) (ns _ _)) (he := ns _ _)
/-- isinstance(x, T), T a built-in type -/
def tyE (s : S) : E → Option String
  | .d .non => some "NoneType"
  | .d (.bl _) => some "bool"
  | .d (.int _) => some "int"
  | .d (.str _) => some "str"
  | .d (.nd .tup _) => some "tuple"
  | .d (.nd .lst _) => some "list"
  | .d (.nd (.dct _) _) => some "dict"
  | .d (.nd (.ins _ _) _) => none
  | .d (.nd (.exc _ _ _ _) _) => none
  | .r i => match nth s.ce i with
    | some (.nd .tup _) => some "tuple"
    | some (.nd .lst _) => some "list"
    | some (.nd (.dct _) _) => some "dict"
    | _ => none
theorem tyx_node {K : PySem.W.Frag} {H : Hp} {a : Addr} {vs : List V} {kd : Kd} {t : String} (n : NodeAt K H a vs kd) (h : (match kd with | .tup => some "tuple" | .lst => some "list" | .dct _ => some "dict" | .ins _ _ => none | .exc _ _ _ _ => none) = some t) : TyX K H (.ref a) (.type t) := by
  cases kd with
  | tup =>
    cases h
    rcases n with (n | ⟨o, n⟩) | ⟨o, its, k, h1, h2, h3, h4, h5⟩
    · exact .base (.tup n)
    · exact .fTuple n
    · exact .kTuple h1 h2
  | lst =>
    cases h
    rcases n with (n | ⟨o, n⟩) | ⟨o, its, k, h1, h2, h3, h4, h5⟩
    · exact .base (.lst n)
    · exact .base (.frz n)
    · exact .kList h1 h2
  | dct ks =>
    cases h
    obtain ⟨_, _, od, n⟩ := n
    exact .fDict n
  | ins C fs => cases h
  | exc a d C fs => cases h
theorem tyx_of {as : List Addr} {G H : Hp} {σ : L2.St} (c : Cz X F as G H σ s) {v : V} {e : E} {t : String} (ve : VE X.K G as v e) (h : tyE s e = some t) : TyX X.K H v (.type t) := by
  cases e with
  | d x =>
    cases ve with
    | non => cases h; exact .base .non
    | bl b => cases h; exact .base (.bl b)
    | int i => cases h; exact .base (.int i)
    | str z => cases h; exact .base (.str z)
    | @nd a vs k ds n r =>
      refine tyx_node (n.mono c.sub) ?_
      cases k <;> exact h
  | r i =>
    have h : (match nth s.ce i with
      | some (.nd .tup _) => some "tuple"
      | some (.nd .lst _) => some "list"
      | some (.nd (.dct _) _) => some "dict"
      | _ => none) = some t := h
    rw [nth_eq] at h
    cases hc : s.ce[i]? with
    | none => rw [hc] at h; cases h
    | some cl =>
      rw [hc] at h
      cases cl with
      | gone => cases h
      | nd k es =>
        obtain ⟨a, h1, h2⟩ := ve
        obtain ⟨a', vs, g1, g2, g3⟩ := c.cells i _ _ hc
        rw [h1] at g1
        cases g1
        subst h2
        refine tyx_node g2.node ?_
        cases k <;> exact h
theorem je_isi {x2 : Str} {T : String} (g : GlB X "isinstance") (gt : GlB X x2) (hv : bootBuiltins x2 = some (.type T)) (h : JE X F a s fun e s1 => ∃ t k, tyE s1 e = some t ∧ kitB t T = some k ∧ Φ (.d (.bl k)) s1)
    (hn : x2 ≠ "__name__" := by decide) (hdb : (x2 == ("__debug__" : Str)) = false := by decide) (ns : NoStar a := by intro _ _; rfl) : JE X F (.Call (.Name "isinstance" p) [a, .Name x2 p2] [] pos) s Φ :=
  je_of (pe_callB call_isi g.gl g.mg PyProof.Rows.boot_isinstance (pa_cons (pe_sem X a) (pa_cons (pe_bltn (v := .ty T) gt.gl gt.mg hv rfl hn hdb) pa_nil) (ns _ _)) (he := ns _ _)) fun as G H σ Q c k => h as G H σ _ c fun v as1 G1 H1 e1 s1 c1 x1 ve ⟨t, kk, h1, h2, q⟩ =>
    ⟨v, .ty T, .type t, .type T, kk, rfl, .ty T, tyx_of c1 ve h1, kit_ty h2, k _ as1 G1 H1 _ s1 c1 x1 (Rep.bl _) q⟩
/-- truth of a value, as a test -/
def truE (s : S) : E → Option Bool
  | .d .non => some false
  | .d (.bl b) => some b
  | .d (.int i) => some (i != 0)
  | e => match s.node e with
    | some (.lst, es) => some (!es.isEmpty)
    | some (.tup, es) => some (!es.isEmpty)
    | _ => none
/-! ### new objects -/
def hoOf : Kd → List V → HO
  | .tup, vs => .tup vs
  | .lst, vs => .lst vs
  | .dct ks, vs => .dK (ks.zip vs)
  | .ins _ _, vs => .lst vs
  | .exc _ _ _ _, vs => .lst vs
/-- the expression makes a new object: its kind, its members -/
def JN (X : Cx) (F : Fr) (e : Expr) (s : S) (Θ : Kd → List E → S → Prop) : Prop := ∀ as G H σ (Q : VK), Cz X F as G H σ s →
  (∀ q vs as' G' H' kd es s', Cz X F as' G' H' σ s' → Ext as as' G G' → H' q = none → (∀ ks, kd = .dct ks → ks.length = vs.length ∧ ks.Nodup) → VEs X.K G' as' vs es → Θ kd es s' → Q (.ref q) (upd H' q (hoOf kd vs))) → semE X e σ H Q
theorem JN.mono {Θ Θ' : Kd → List E → S → Prop} (h : JN X F e s Θ) (m : ∀ k es s, Θ k es s → Θ' k es s) : JN X F e s Θ' := fun as G H σ Q c k => h as G H σ Q c fun q vs as' G' H' kd es s' c' x hq hk ve t => k q vs as' G' H' kd es s' c' x hq hk ve (m _ _ _ t)
theorem je_new {kd : Kd} (h : JN X F e s fun k es s1 => k = kd ∧ ∃ ds, dsOf es = some ds ∧ Φ (.d (.nd kd ds)) s1) (hk : kd = .tup ∨ kd = .lst) : JE X F e s Φ :=
  fun as G H σ Q c k => h as G H σ Q c fun q vs as' G' H' k' es s' c' x hq _ ve ⟨e1, ds, e2, t⟩ => by
    subst e1
    rw [dsOf_eq e2] at ve
    have sg : Same G' (upd G' q (hoOf k' vs)) := same_new (c'.gnone hq)
    refine k _ as' (upd G' q (hoOf k' vs)) _ (.d (.nd k' ds)) s' (c'.addG hq) (x.trans ⟨List.prefix_refl _, sg⟩) (.nd ?_ (ve.reps.mono sg)) t
    rcases hk with rfl | rfl
    · exact SqT.of upd_same
    · exact SqL.of upd_same
/-- .. owned -/
theorem je_own (h : JN X F e s fun k es s1 => k = .lst ∧ Φ (.r s1.ce.length) (s1.push .lst es)) : JE X F e s Φ :=
  fun as G H σ Q c k => h as G H σ Q c fun q vs as' G' H' k' es s' c' x hq _ ve ⟨e1, t⟩ => by
    subst e1
    exact k _ _ G' _ (.r s'.ce.length) _ (c'.addO (kd := .lst) hq upd_same ve) (x.trans ⟨pre_snoc, Same.refl _⟩) ⟨q, by rw [← c'.len, List.getElem?_append_right (Nat.le_refl _)]; simp, rfl⟩ t
theorem sem_lock {σ : L2.St} {H : Hp} {Q : VK} (h : semE X e σ H fun v H' => ∃ d u, H' d = some u ∧ Mut (some u) ∧ ∀ od, Q v (upd H' d (.frz od u))) : semE X e σ H Q := fun pins st I =>
  thn (h pins st I) fun v s1 ⟨x, H1, I1, r, d, u, hd, mu, q⟩ => by
    obtain ⟨od, I2⟩ := I1.lock hd mu
    exact ⟨x, _, I2, r, q od⟩
theorem je_ownD (h : JN X F e s fun k es s1 => ∃ ks, k = .dct ks ∧ Φ (.r s1.ce.length) (s1.push (.dct ks) es)) : JE X F e s Φ :=
  fun as G H σ Q c k => sem_lock (h as G H σ _ c fun q vs as' G' H' k' es s' c' x hq hks ve ⟨ks, e1, t⟩ => by
    subst e1
    obtain ⟨l1, l2⟩ := hks ks rfl
    refine ⟨q, _, upd_same, trivial, fun od => ?_⟩
    rw [upd_upd]
    exact k _ _ G' _ (.r s'.ce.length) _ (c'.addO (kd := .dct ks) hq ⟨l1, l2, od, upd_same⟩ ve) (x.trans ⟨pre_snoc, Same.refl _⟩) ⟨q, by rw [← c'.len, List.getElem?_append_right (Nat.le_refl _)]; simp, rfl⟩ t)
/-- freezing what an expression hands back -/
theorem je_frz (h : JE X F e s fun e1 s1 => ∃ k kd es ds, e1 = .r k ∧ nth s1.ce k = some (.nd kd es) ∧ dsOf es = some ds ∧ (∀ C fs, kd ≠ .ins C fs) ∧ s1.ar ≤ k ∧ Φ (.d (.nd kd ds)) (s1.fz k (.nd kd ds))) : JE X F e s Φ :=
  fun as G H σ Q c k => h as G H σ Q c fun v as' G' H' e1 s' c' x ve ⟨j, kd, es, ds, e1, e2, e3, e4, e5, t⟩ => by
    subst e1
    rw [dsOf_eq e3] at e2
    obtain ⟨a, G2, h1, x2, c2, rep⟩ := c'.fz e2 e4 e5
    obtain ⟨b, h2, rfl⟩ := ve
    rw [h1] at h2
    cases h2
    exact k _ as' G2 H' _ _ c2 (x.trans x2) rep t
/-- displays -/
theorem jn_lst {Θ : Kd → List E → S → Prop} (h : JA X F es s fun vs s1 => vs.length ≤ sizeLine ∧ Θ .lst vs s1) : JN X F (.List es pos) s Θ := fun as G H σ Q c k => PE.sem (pe_lst (pa_sem X es)) (h as G H σ _ c fun vs as1 G1 H1 es1 s1 c1 x1 ves ⟨h1, h2⟩ =>
  ⟨by rw [Paired.length ves]; exact h1, fun q hq => k q vs as1 G1 H1 .lst es1 s1 c1 x1 hq (fun ks z => by cases z) ves h2⟩)
theorem jn_tup {Θ : Kd → List E → S → Prop} {k1 : Nat} (h : JA X F es s fun vs s1 => vs.length ≤ sizeLine ∧ Θ .tup vs s1) : JN X F (.Tuple es k1 pos) s Θ := fun as G H σ Q c k => PE.sem (pe_tup (pa_sem X es)) (h as G H σ _ c fun vs as1 G1 H1 es1 s1 c1 x1 ves ⟨h1, h2⟩ =>
  ⟨by rw [Paired.length ves]; exact h1, fun q hq => k q vs as1 G1 H1 .tup es1 s1 c1 x1 hq (fun ks z => by cases z) ves h2⟩)
theorem je_tup {k1 : Nat} (h : JA X F es s fun vs s1 => vs.length ≤ sizeLine ∧ ∃ ds, dsOf vs = some ds ∧ Φ (.d (.nd .tup ds)) s1) : JE X F (.Tuple es k1 pos) s Φ :=
  je_new (kd := .tup) (jn_tup (fun as G H σ Q c k => h as G H σ Q c fun vs as' G' H' es' s' c' x ve ⟨h1, ds, h2, h3⟩ => k vs as' G' H' es' s' c' x ve ⟨h1, rfl, ds, h2, h3⟩)) (.inl rfl)
theorem je_lst (h : JA X F es s fun vs s1 => vs.length ≤ sizeLine ∧ ∃ ds, dsOf vs = some ds ∧ Φ (.d (.nd .lst ds)) s1) : JE X F (.List es pos) s Φ :=
  je_new (kd := .lst) (jn_lst (fun as G H σ Q c k => h as G H σ Q c fun vs as' G' H' es' s' c' x ve ⟨h1, ds, h2, h3⟩ => k vs as' G' H' es' s' c' x ve ⟨h1, rfl, ds, h2, h3⟩)) (.inr rfl)
theorem jn_dict0 {Θ : Kd → List E → S → Prop} (h : Θ (.dct []) [] s) : JN X F (.Dict [] [] pos) s Θ := fun as G H σ Q c k => PE.sem pe_dnewK fun q hq => k q [] as G H (.dct []) [] s c (Ext.refl _ _) hq (fun ks z => by cases z; exact ⟨rfl, List.nodup_nil⟩) .nil h
end
/-! ### statements -/
section
variable {e a b c : Expr} {es rest : List Expr} {st : Stmt} {sts : List Stmt} {P : Po} {pos p p' : Pos} {x : Str}
theorem jss_nil (h : P.nx s) : JSs X F [] s P := fun as G H σ D c k => PSs.sem pss_nil (k.nx as G H σ s c (Same.refl _) h)
theorem jss_cons (h : JS X F st s { P with nx := fun s1 => JSs X F sts s1 P }) : JSs X F (st :: sts) s P := fun as G H σ D c k =>
  PSs.sem (pss_cons (ps_sem X st) (pss_sem X sts)) (h as G H σ _ c ⟨fun as' G' H' σ' s' c' x q => q as' G' H' σ' D c' (k.exs x), k.rt, k.bk, k.ct⟩)
theorem js_set {i : Nat} (n : NmW X i x) (h : JE X F e s fun e1 s1 => P.nx (s1.set i e1)) (hs : swapsWith e (some (.Name x p')) pos.line X.env = pure false := by rfl) : JS X F (.Assign [.Name x p'] e pos) s P :=
  fun as G H σ D c k => PS.sem (ps_set n.nd n.nm n.loc (pe_sem X e) hs n.hf) (h as G H σ _ c fun v as1 G1 H1 e1 s1 c1 x1 ve q => k.nx as1 G1 H1 _ _ (c1.set ve) x1.sub q)
theorem js_ret (h : JE X F e s P.rt) : JS X F (.Return (some e) pos) s P := fun as G H σ D c k => PS.sem (ps_ret (pe_sem X e)) (h as G H σ _ c fun v as1 G1 H1 e1 s1 c1 x1 ve q => k.rt v as1 G1 H1 σ e1 s1 c1 x1.sub ve q)
theorem js_retN (h : P.rt (.d .non) s) : JS X F (.Return none pos) s P := fun as G H σ D c k => PS.sem ps_retN (k.rt _ as G H σ _ s c (Same.refl _) Rep.non h)
theorem js_break (h : P.bk s) : JS X F (.Break pos) s P := fun as G H σ D c k => PS.sem ps_break (k.bk as G H σ s c (Same.refl _) h)
theorem js_cont (h : P.ct s) : JS X F (.Continue pos) s P := fun as G H σ D c k => PS.sem ps_continue (k.ct as G H σ s c (Same.refl _) h)
theorem js_expr (h : JE X F e s fun _ s1 => P.nx s1) (hs : swapsWith e none pos.line X.env = pure false := by rfl) : JS X F (.Expr e pos) s P := fun as G H σ D c k => PS.sem (ps_expr (pe_sem X e) hs) (h as G H σ _ c fun v as1 G1 H1 e1 s1 c1 x1 ve q => k.nx as1 G1 H1 σ s1 c1 x1.sub q)
theorem js_doc {z : Str} {j : Nat} (h : P.nx s) : JS X F (.Expr (.Constant (.str z) j p) pos) s P := fun as G H σ D c k => PS.sem ps_doc (k.nx as G H σ s c (Same.refl _) h)
theorem js_if {t u : List Stmt} (h : JT X F c s fun k s1 => if k = true then JSs X F t s1 P else JSs X F u s1 P) : JS X F (.If c t u pos) s P := fun as G H σ D c k =>
  PS.sem (ps_if (pt_sem X _) (pss_sem X t) (pss_sem X u)) (h as G H σ _ c fun b as1 G1 H1 s1 c1 x1 q => by
    cases b with
    | true =>
      simp only [if_true] at q ⊢
      exact q as1 G1 H1 σ D c1 (k.ext x1)
    | false => exact q as1 G1 H1 σ D c1 (k.ext x1))
/-- a, b = x, y -/
theorem js_par {i j : Nat} {y : Str} {px py pt pt2 : Pos} {kt k2 : Nat} {B : Nat} (bx : Bx X B) (n : NmW X i x) (m : NmW X j y) (hij : i ≠ j) (lx : X.env.scope.names.lookup x = some .local) (ly : X.env.scope.names.lookup y = some .local)
    (hw : swappedStores [.Tuple [.Name x px, .Name y py] kt pt] (.Tuple [a, b] k2 pt2) X.env = pure (some [x, y]))
    (h : JE X F a s fun e1 s1 => JE X F b s1 fun e2 s2 => P.nx ((s2.set i e1).set j e2)) 
    (hs : swapsWithSole [.Tuple [.Name x px, .Name y py] kt pt] (.Tuple [a, b] k2 pt2) pos.line X.env = pure false := by rfl) (ns : NoStar a := by intro _ _; rfl) (ns2 : NoStar b := by intro _ _; rfl) : JS X F (.Assign [.Tuple [.Name x px, .Name y py] kt pt] (.Tuple [a, b] k2 pt2) pos) s P :=
  fun as G H σ D c k => PS.sem (ps_par bx.calm n.nd n.nm m.nm hij lx ly (pa_cons (pe_sem X a) (pa_cons (pe_sem X b) pa_nil (ns2 _ _)) (ns _ _)) hw hs)
    (h as G H σ _ c fun v1 as1 G1 H1 e1 s1 c1 x1 ve1 h1 => h1 as1 G1 H1 σ _ c1 fun v2 as2 G2 H2 e2 s2 c2 x2 ve2 q => ⟨v1, v2, rfl, k.nx as2 G2 H2 _ _ ((c2.set (x2.ve ve1)).set ve2) (x1.trans x2).sub q⟩)
/-! targets -/
theorem jg_name {i : Nat} {v : E} {Φ : S → Prop} (n : NmW X i x) (h : Φ (s.set i v)) : JG X F (.Name x p) v s Φ := fun as G H σ u Q c ve k => PG.sem (pg_name n.nd n.nm n.loc n.hf) (k as G H _ _ (c.set ve) (Ext.refl _ _) h)
def JGs (X : Cx) (F : Fr) (ts : List Expr) (es : List E) (s : S) (Φ : S → Prop) : Prop := ∀ as G H σ vs (Q : L2.St → Hp → Prop), Cz X F as G H σ s → VEs X.K G as vs es →
  (∀ as' G' H' σ' s', Cz X F as' G' H' σ' s' → Ext as as' G G' → Φ s' → Q σ' H') →
    ∀ pins st us, Inv X pins σ H st → Vals vs us → wpAny (model X.prog X.w) X.A (assignInOrder ((assignEach ts X.env).map (·.2)) us) (fun _ s' => ∃ σ' H', Inv X pins σ' H' s' ∧ Q σ' H') X.xe st
def semGs (X : Cx) (ts : List Expr) : TGs := fun vs σ H Q => ∀ pins st us, Inv X pins σ H st → Vals vs us → wpAny (model X.prog X.w) X.A (assignInOrder ((assignEach ts X.env).map (·.2)) us) (fun _ s' => ∃ σ' H', Inv X pins σ' H' s' ∧ Q σ' H') X.xe st
theorem pgs_sem (X : Cx) (ts : List Expr) : PGs X ts (semGs X ts) := ⟨fun pins s σ H vs us Q I r h => h pins s us I r⟩
theorem jgs_nil {Φ : S → Prop} (h : Φ s) : JGs X F [] [] s Φ := fun as G H σ vs Q c ve k pins st us I r => by
  cases ve
  exact pgs_nil.run pins st σ H [] us Q I r ⟨rfl, k as G H σ s c (Ext.refl _ _) h⟩
theorem jgs_cons {t : Expr} {ts : List Expr} {v : E} {vs : List E} {Φ : S → Prop} (h : JG X F t v s fun s1 => JGs X F ts vs s1 Φ) (hs : (assignEach (t :: ts) X.env).map (·.2) = assign t X.env :: (assignEach ts X.env).map (·.2) := by rfl) : JGs X F (t :: ts) (v :: vs) s Φ :=
  fun as G H σ ws Q c ve k pins st us I r => by
    cases ve with
    | cons v1 v2 =>
      refine (pgs_cons (pg_sem X t) (u := fun vs σ H Q => ∀ pins st us, Inv X pins σ H st → Vals vs us → wpAny (model X.prog X.w) X.A (assignInOrder ((assignEach ts X.env).map (·.2)) us) (fun _ s' => ∃ σ' H', Inv X pins σ' H' s' ∧ Q σ' H') X.xe st) ⟨fun pins s σ H vs us Q I r h => h pins s us I r⟩ hs).run pins st σ H _ us Q I r ⟨_, _, rfl, ?_⟩
      exact h as G H σ _ _ c v1 fun as1 G1 H1 σ1 s1 c1 x1 q => q as1 G1 H1 σ1 _ Q c1 (x1.ves v2) fun as' G' H' σ' s' c' x t => k as' G' H' σ' s' c' (x1.trans x) t
theorem jg_tup {k1 : Nat} {v : E} {vs : List E} {Φ : S → Prop} {B : Nat} (bx : Bx X B) (hn : s.node v = some (.tup, vs)) (hl : vs.length = es.length) (h : JGs X F es vs s Φ)
    (hn2 : (assignEach es X.env).length = es.length := by rfl) (hst : (assignEach es X.env).findIdx? (·.1) = none := by rfl) : JG X F (.Tuple es k1 p) v s Φ :=
  fun as G H σ u Q c ve k => by
    obtain ⟨a, ws, rfl, n, we⟩ := c.node ve hn
    exact PG.sem (pg_tup (n := es.length) bx.calm (pgs_sem X es) hn2 hst) ⟨a, ws, rfl, n, by rw [Paired.length we, hl], fun pins st us I r => h as G H σ ws Q c we k pins st us I r⟩
theorem js_asg {tg : Expr} (h : JE X F e s fun e1 s1 => JG X F tg e1 s1 P.nx) (hs : swapsWithSole [tg] e pos.line X.env = pure false := by rfl) (hw : swappedStores [tg] e X.env = pure none := by rfl)
    (h1 : (assignEach [tg] X.env).map (·.2) = [assign tg X.env] := by rfl) : JS X F (.Assign [tg] e pos) s P :=
  fun as G H σ D c k => PS.sem (ps_asg (pe_sem X e) (pg_sem X tg) hs hw h1) (h as G H σ _ c fun v as1 G1 H1 e1 s1 c1 x1 ve q => q as1 G1 H1 σ v _ c1 ve fun as' G' H' σ' s' c' x t => k.nx as' G' H' σ' s' c' (x1.trans x).sub t)
/-- xs[i] = v, xs owned -/
theorem jg_setL {o i : Expr} {v : E} {Φ : S → Prop} (h : JE X F o s fun eo s1 => JE X F i s1 fun ei s2 => ∃ k n es j, eo = .r k ∧ ei = .d (.int n) ∧ nth s2.ce k = some (.nd .lst es) ∧ ixN es.length n = some j ∧ Φ (s2.put k .lst (es.set j v)))
    (ha : ∀ v, assign (.Subscript o i p) X.env v = (do
      let ov ← holding [v] (eval o X.env)
      let iv ← holding [v, ov] (eval i X.env)
      standAt p
      holding [v, ov, iv] (setItem ov iv v)
      release [v, ov, iv] []) := by intro _; rfl) : JG X F (.Subscript o i p) v s Φ :=
  fun as G H σ u Q c ve k => PG.sem (pg_sub (pe_sem X o) (pe_sem X i) set_list ha) (h as G H σ _ c fun v1 as1 G1 H1 e1 s1 c1 x1 ve1 h1 => h1 as1 G1 H1 σ _ c1 fun v2 as2 G2 H2 e2 s2 c2 x2 ve2 ⟨kk, n, es, j, q1, q2, q3, q4, q5⟩ => by
    subst q1 q2
    cases ve2
    obtain ⟨a, ha, rfl⟩ := x2.ve ve1
    rw [nth_eq] at q3
    obtain ⟨a', vs, g1, g2, g3⟩ := c2.cells kk _ _ q3
    rw [ha] at g1
    cases g1
    have g2' : H2 a = some (.lst vs) := g2
    have hl := Paired.length g3
    refine ⟨a, vs, n, j, rfl, rfl, g2', by rw [hl]; exact q4, ?_⟩
    have vu := (x1.trans x2).ve ve
    have hv : VEs X.K G2 as2 (vs.set j u) (es.set j v) := by
      clear q4 q5 g2' g2 hl q3
      induction g3 generalizing j with
      | nil => exact .nil
      | cons r t ih =>
        cases j with
        | zero => exact .cons vu t
        | succ j => exact .cons r (ih j)
    exact k as2 G2 _ σ _ (c2.put (kd := .lst) q3 ha upd_same hv) (x1.trans x2) q5)
/-- xs.append(v), xs owned -/
theorem je_append {o e : Expr} {apos : Pos} {Φ : E → S → Prop} (h : JE X F o s fun eo s1 => ∃ k es0, eo = .r k ∧ nth s1.ce k = some (.nd .lst es0) ∧ JE X F e s1 fun v s2 => ∃ es, nth s2.ce k = some (.nd .lst es) ∧ es.length < sizeLine ∧ Φ (.d .non) (s2.put k .lst (es ++ [v])))
    (hbase : attributeBase o "append" X.env (eval o X.env) = eval o X.env := by rfl)
    (hfew : ((backTo pos (starEach (e :: []) X.env)).all (fun x => !x.1) && (backToKw pos (keywordEach [] X.env)).all (fun x => x.1.isSome)
      && decide ((e :: ([] : List Expr)).length + ([] : List Keyword).length + (if ([] : List Keyword).isEmpty then 0 else 1) < 30)) = true := by rfl)
    (hline : (apos.endLine == pos.line) = true := by rfl) (hs : NoStar e := by intro _ _; rfl) (hplain : (backTo pos (starEach [] X.env)).any (·.1) = false := by rfl) :
    JE X F (.Call (.Attribute o "append" apos) [e] [] pos) s Φ :=
  je_of (pe_bm PySem.F.plainAttrs_list PySem.F.slot_list_append PySem.F.type_list_append mt_append (pe_sem X o) (pa_cons (pe_sem X e) pa_nil (hs _ _)) hbase hfew hline (hs _ _) hplain) fun as G H σ Q c kk =>
    h as G H σ _ c fun v1 as1 G1 H1 e1 s1 c1 x1 ve1 ⟨k, es0, q1, q2, h1⟩ => by
      subst q1
      obtain ⟨a, ha, rfl⟩ := ve1
      rw [nth_eq] at q2
      obtain ⟨a', vs, g1, g2, g3⟩ := c1.cells k _ _ q2
      rw [ha] at g1
      cases g1
      refine ⟨.inl ⟨rfl, vs, SqL.of g2⟩, ?_⟩
      refine h1 as1 G1 H1 σ _ c1 fun v2 as2 G2 H2 e2 s2 c2 x2 ve2 ⟨es, w1, w2, w3⟩ => ?_
      rw [nth_eq] at w1
      obtain ⟨b, ws, y1, y2, y3⟩ := c2.cells k _ _ w1
      have ha2 := pre_get x2.pre ha
      rw [ha2] at y1
      cases y1
      have y2' : H2 a = some (.lst ws) := y2
      have hl := Paired.length y3
      refine ⟨a, ws, v2, rfl, rfl, y2', by rw [hl]; exact w2, ?_⟩
      exact kk _ as2 G2 _ _ _ (c2.put (kd := .lst) w1 ha2 upd_same (y3.snoc ve2)) (x1.trans x2) Rep.non w3
end
end DL
namespace DL
open PySem PySem.Spec PyProof.Rows L2
/-! ### a body's context -/
/-- a def's own body, no block in it -/
structure XTop (X : Cx) : Prop where
  stk : X.stack = X.env :: X.outer
  frm : X.env.frame = some X.env.locals
structure XIs (X : Cx) (P : Program) (w : World) (K : PySem.W.Frag) (mg : Str → Option Value) (base : Heap) (N : List Str) (sc : Scope) (k : Nat) : Prop where
  eP : X.prog = P
  eW : X.w = w
  eK : X.K = K
  eM : X.mg = mg
  eB : X.base = base
  eN : X.N = N
  eS : X.env.scope = sc
  calm : X.calm = true
  nd : N.Nodup
  xe : PassesOwn (model X.prog X.w) X.A X.env X.xe
  room : Room k X.A
section
variable {X : Cx} {P : Program} {w : World} {K : PySem.W.Frag} {mg : Str → Option Value} {base : Heap} {N : List Str} {sc : Scope} {k : Nat}
theorem XIs.bx (h : XIs X P w K mg base N sc k) : Bx X k := ⟨h.calm, h.eN ▸ h.nd, h.xe, h.room⟩
theorem XIs.nmR (h : XIs X P w K mg base N sc k) {i : Nat} {x : Str} (h1 : N[i]? = some x) (h2 : Vis sc x) (h3 : (x == ("__debug__" : Str)) = false := by decide) (h4 : (x == ("__classdict__" : Str)) = false := by decide) : NmR X i x := ⟨by rw [h.eN]; exact h1, by rw [h.eS]; exact h2, h3, h4⟩
theorem XIs.nmW (h : XIs X P w K mg base N sc k) {i : Nat} {x : Str} (h1 : N[i]? = some x) (h2 : sc.names.lookup x = some .local) : NmW X i x := ⟨by rw [h.eN]; exact h1, h.eN ▸ h.nd, .inl (by rw [h.eS]; exact h2), .inr (by rw [h.eS]; exact h2)⟩
theorem XIs.nmC (h : XIs X P w K mg base N sc k) {i : Nat} {x : Str} (h1 : N[i]? = some x) (h2 : sc.names.lookup x = some .cell) (hf : X.fn x = true) : NmW X i x := ⟨by rw [h.eN]; exact h1, h.eN ▸ h.nd, .inr (by rw [h.eS]; exact h2), .inl hf⟩
theorem XIs.gl (h : XIs X P w K mg base N sc k) {x : Str} (h1 : sc.names.lookup x = some .globalImplicit) : Gl X x := by
  show X.env.scope.names.lookup x = _
  rw [h.eS]; exact h1
theorem XIs.glb (h : XIs X P w K mg base N sc k) {x : Str} (h1 : sc.names.lookup x = some .globalImplicit) (h2 : mg x = none) : GlB X x := ⟨h.gl h1, by rw [h.eM]; exact h2⟩
theorem XIs.loc (h : XIs X P w K mg base N sc k) {x : Str} (h1 : sc.names.lookup x = some .local) : X.env.scope.names.lookup x = some .local := by rw [h.eS]; exact h1
end
/-! ### what a def promises, over data -/
inductive Rt where
  | dat (x : D) | new (k : Kd) (ds : List D)
def RtAt (K : PySem.W.Frag) (G H' H : Hp) (v : V) : Rt → Prop
  | .dat x => Rep K G v x
  | .new k ds => ∃ a vs, v = .ref a ∧ H a = none ∧ G a = none ∧ CellAt H' a vs k ∧ Reps K G vs ds
abbrev RP := List D → (Rt → Prop) → Prop
/-- a def that owns none of its arguments -/
def spP (K : PySem.W.Frag) (R : RP) : Sp := fun vs H Q _ => ∃ G ds, Same G H ∧ Reps K G vs ds ∧ R ds fun r => ∀ v G' H', Same H H' → Same G G' → Same G' H' → (∀ b, G b = none → H b ≠ none → G' b = none) → RtAt K G' H' H v r → Q v H'
abbrev RC1 := Kd → List D → List D → (Rt → Kd → List D → Prop) → Prop
/-- a def whose first argument is owned -/
def spC (K : PySem.W.Frag) (R : RC1) : Sp := fun vs H Q _ => ∃ a rest cvs kd cds ds G, vs = .ref a :: rest ∧ Same G H ∧ G a = none ∧ CellAt H a cvs kd ∧ Reps K G cvs cds ∧ Reps K G rest ds ∧
  R kd cds ds fun r kd' cds' => ∀ v G' H' cvs', (∀ b o, b ≠ a → H b = some o → H' b = some o) → Same G G' → Same G' H' → (∀ b, G b = none → H b ≠ none → G' b = none) → CellAt H' a cvs' kd' → Reps K G' cvs' cds' → RtAt K G' H' H v r → Q v H'
def MonoP (R : RP) : Prop := ∀ ds p q, (∀ r, p r → q r) → R ds p → R ds q
def MonoC (R : RC1) : Prop := ∀ kd cds ds p q, (∀ r k c, p r k c → q r k c) → R kd cds ds p → R kd cds ds q
structure CaP (P : Program) (w : World) (K : PySem.W.Frag) (mg : Str → Option Value) (base : Heap) (x : Str) (k : Nat) (R : RP) : Prop where
  mono : MonoP R
  ex : ∃ f fd ps, mg x = some (.ref f) ∧ PySem.W.keepIn K (.ref f) = true ∧ Binds K fd ps [] ∧ FnOk P w K mg base CX0 k f fd ps (spP K R)
structure CaC (P : Program) (w : World) (K : PySem.W.Frag) (mg : Str → Option Value) (base : Heap) (x : Str) (k : Nat) (R : RC1) : Prop where
  mono : MonoC R
  ex : ∃ f fd ps, mg x = some (.ref f) ∧ PySem.W.keepIn K (.ref f) = true ∧ Binds K fd ps [] ∧ FnOk P w K mg base CX0 k f fd ps (spC K R)
/-- .. seen from a body -/
structure CbP (X : Cx) (x : Str) (k : Nat) (R : RP) : Prop where
  gl : Gl X x
  mono : MonoP R
  ex : ∃ f fd ps, X.mg x = some (.ref f) ∧ PySem.W.keepIn X.K (.ref f) = true ∧ Binds X.K fd ps [] ∧ FnOk X.prog X.w X.K X.mg X.base CX0 k f fd ps (spP X.K R)
structure CbC (X : Cx) (x : Str) (k : Nat) (R : RC1) : Prop where
  gl : Gl X x
  mono : MonoC R
  ex : ∃ f fd ps, X.mg x = some (.ref f) ∧ PySem.W.keepIn X.K (.ref f) = true ∧ Binds X.K fd ps [] ∧ FnOk X.prog X.w X.K X.mg X.base CX0 k f fd ps (spC X.K R)
theorem CaP.at {X : Cx} {P : Program} {w : World} {K : PySem.W.Frag} {mg : Str → Option Value} {base : Heap} {N : List Str} {sc : Scope} {k j : Nat} {x : Str} {R : RP} (c : CaP P w K mg base x j R) (h : XIs X P w K mg base N sc k)
    (h1 : sc.names.lookup x = some .globalImplicit) : CbP X x j R := by
  obtain ⟨e1, e2, e3, e4, e5, _⟩ := id h
  subst e1 e2 e3 e4 e5
  exact ⟨h.gl h1, c.mono, c.ex⟩
theorem CaC.at {X : Cx} {P : Program} {w : World} {K : PySem.W.Frag} {mg : Str → Option Value} {base : Heap} {N : List Str} {sc : Scope} {k j : Nat} {x : Str} {R : RC1} (c : CaC P w K mg base x j R) (h : XIs X P w K mg base N sc k)
    (h1 : sc.names.lookup x = some .globalImplicit) : CbC X x j R := by
  obtain ⟨e1, e2, e3, e4, e5, _⟩ := id h
  subst e1 e2 e3 e4 e5
  exact ⟨h.gl h1, c.mono, c.ex⟩
/-- what a body must end with -/
def RtE (post : Rt → Prop) : E → S → Prop
  | .d x, _ => post (.dat x)
  | .r k, s => ∃ kd es ds, nth s.ce k = some (.nd kd es) ∧ dsOf es = some ds ∧ s.ar ≤ k ∧ post (.new kd ds)
def entry (N : List Str) (ds : List E) (ce : List Cell) (ar : Nat) : S := ⟨ds.map some ++ List.replicate (N.length - ds.length) none, ce, ar⟩
section
variable {P : Program} {w : World} {K : PySem.W.Frag} {mg : Str → Option Value} {base : Heap} {x qual : Str} {st : Stmt} {f : Addr} {fd : FuncData} {N ps : List Str} {k : Nat}
theorem slots_entry {K : PySem.W.Frag} {G : Hp} {as : List Addr} {vs : List V} {es : List E} (h : VEs K G as vs es) (N : List Str) {i : Nat} {e : E} (q : (es.map some ++ List.replicate (N.length - es.length) none)[i]? = some (some e)) : ∃ v, (L2.start N vs)[i]? = some (some v) ∧ VE K G as v e := by
  unfold L2.start
  by_cases hi : i < es.length
  · rw [List.getElem?_append_left (by rw [List.length_map]; exact hi), List.getElem?_map] at q
    cases e1 : es[i]? with
    | none => rw [e1] at q; cases q
    | some e2 =>
      rw [e1] at q
      cases q
      obtain ⟨v, h1, h2⟩ := h.get' e1
      refine ⟨v, ?_, h2⟩
      rw [List.getElem?_append_left (by rw [List.length_map, Paired.length h]; exact hi), List.getElem?_map, h1]
      rfl
  · rw [List.getElem?_append_right (by rw [List.length_map]; omega), List.getElem?_replicate] at q
    split at q <;> cases q
theorem fn_PT {R : RP} (F : Fun K x qual st f fd) (S : FnScope N ps (defScope st)) (hlen : ∀ ds post, R ds post → ds.length = ps.length)
    (body : ∀ (X : Cx) (F : Fr) (ds : List D) (post : Rt → Prop), XIs X P w K mg base N (defScope st) k → (∀ y, X.fn y = true) → X.H_0 = F.H0 → XTop X → R ds post → JSs X F (defBody st) (entry N (ds.map .d) [] 0) { nx := fun _ => post (.dat .non), rt := RtE post }) :
    FnOk P w K mg base CX0 (k + 1) f fd ps (spP K R) := by
  refine F.ok S (fun vs H Q E h => ?_) fun cdv A outer s H vs Q Ex hr h => ?_
  · obtain ⟨G, ds, _, r, hR⟩ := h
    rw [r.length]; exact hlen ds _ hR
  · obtain ⟨G, ds, sg, r, hR⟩ := h
    refine ⟨_, pss_sem _ _, ?_⟩
    have ve : VEs K G [] vs (ds.map .d) := VEs.ofReps r
    refine body _ ⟨G, H, []⟩ ds _ ⟨rfl, rfl, rfl, rfl, rfl, rfl, rfl, rfl, S.nd, PassesOwn.never, hr⟩ (fun _ => rfl) rfl ⟨rfl, rfl⟩ hR [] G H _ _ ?_ ?_
    · refine ⟨sg, Same.refl _, fun _ h _ => h, fun _ _ h _ => h, rfl, List.prefix_refl _, List.nodup_nil, fun k a kd es h => by simp at h, fun a h => by simp at h, fun a h => by simp at h, fun k kd es h => ?_, fun i e h => slots_entry ve N h, ?_, rfl⟩
      · have h : ([] : List Cell)[k]? = some (.nd kd es) := h
        simp at h
      · show (((ds.map E.d).map some) ++ List.replicate (N.length - (ds.map E.d).length) none).length = (L2.start N vs).length
        unfold L2.start
        simp [r.length]
    · have fin : ∀ {as' : List Addr} {G' H' : Hp} {σ' : L2.St} {s' : DL.S}, Cz (cxOf CX0 P w K mg base N qual (defScope st) f cdv A outer s H Ex).nox ⟨G, H, []⟩ as' G' H' σ' s' → Same H H' := fun {as' G' H' σ' s'} c b o q => c.frame b o q (by simp)
      refine ⟨fun as' G' H' σ' s' c x q => q .non G' H' (fin c) c.base c.sub c.new .non, fun v as' G' H' σ' e' s' c x ve q => ?_, fun _ _ _ _ _ _ _ q => q.elim, fun _ _ _ _ _ _ _ q => q.elim⟩
      cases e' with
      | d y => exact q v G' H' (fin c) c.base c.sub c.new ve
      | r j =>
        obtain ⟨kd, es, ds', q1, q2, q3, q4⟩ := q
        rw [nth_eq] at q1
        obtain ⟨a, h1, h2⟩ := ve
        obtain ⟨a', ws, g1, g2, g3⟩ := c.cells j _ _ q1
        rw [h1] at g1
        cases g1
        rw [dsOf_eq q2] at g3
        exact q4 v G' H' (fin c) c.base c.sub c.new ⟨a, ws, h2, (c.fresh a (List.mem_of_getElem? h1)).resolve_left (by simp), c.own j a _ _ h1 q1, g2, g3.reps⟩
theorem fn_P {R : RP} (F : Fun K x qual st f fd) (S : FnScope N ps (defScope st)) (hlen : ∀ ds post, R ds post → ds.length = ps.length)
    (body : ∀ (X : Cx) (F : Fr) (ds : List D) (post : Rt → Prop), XIs X P w K mg base N (defScope st) k → (∀ y, X.fn y = true) → X.H_0 = F.H0 → R ds post → JSs X F (defBody st) (entry N (ds.map .d) [] 0) { nx := fun _ => post (.dat .non), rt := RtE post }) :
    FnOk P w K mg base CX0 (k + 1) f fd ps (spP K R) :=
  fn_PT F S hlen fun X F ds post hX hfn hH _ h => body X F ds post hX hfn hH h
theorem fn_CT {R : RC1} (F : Fun K x qual st f fd) (S : FnScope N ps (defScope st)) (hlen : ∀ kd cds ds post, R kd cds ds post → ds.length + 1 = ps.length)
    (body : ∀ (X : Cx) (F : Fr) (kd : Kd) (cds ds : List D) (post : Rt → Kd → List D → Prop), XIs X P w K mg base N (defScope st) k → (∀ y, X.fn y = true) → X.H_0 = F.H0 → XTop X → R kd cds ds post → JSs X F (defBody st) (entry N (.r 0 :: ds.map .d) [.nd kd (cds.map .d)] 1)
      { nx := fun s => ∃ kd' es' cds', nth s.ce 0 = some (.nd kd' es') ∧ dsOf es' = some cds' ∧ post (.dat .non) kd' cds', rt := fun e s => ∃ kd' es' cds', nth s.ce 0 = some (.nd kd' es') ∧ dsOf es' = some cds' ∧ RtE (fun r => post r kd' cds') e s }) :
    FnOk P w K mg base CX0 (k + 1) f fd ps (spC K R) := by
  refine F.ok S (fun vs H Q E h => ?_) fun cdv A outer s H vs Q Ex hr h => ?_
  · obtain ⟨a, rest, cvs, kd, cds, ds, G, rfl, _, _, _, _, r, hR⟩ := h
    rw [List.length_cons, r.length]; exact hlen _ _ ds _ hR
  · obtain ⟨a, rest, cvs, kd, cds, ds, G, rfl, sg, ga, ca, rc, r, hR⟩ := h
    refine ⟨_, pss_sem _ _, ?_⟩
    have ve : VEs K G [a] (.ref a :: rest) (.r 0 :: ds.map .d) := .cons ⟨a, rfl, rfl⟩ (VEs.ofReps r)
    refine body _ ⟨G, H, [a]⟩ kd cds ds _ ⟨rfl, rfl, rfl, rfl, rfl, rfl, rfl, rfl, S.nd, PassesOwn.never, hr⟩ (fun _ => rfl) rfl ⟨rfl, rfl⟩ hR [a] G H _ _ ?_ ?_
    · refine ⟨sg, Same.refl _, fun _ h _ => h, fun _ _ h _ => h, rfl, List.prefix_refl _, by simp, fun k b kd es h h2 => ?_, fun b h => .inl h, fun b h => ?_, fun k kd' es h => ?_, fun i e h => slots_entry ve N h, ?_, rfl⟩
      · have hb : b = a := by
          have := List.mem_of_getElem? h
          simpa using this
        rw [hb]; exact ga
      · have hb : b = a := by simpa using h
        obtain ⟨o, ho⟩ := ca.some
        rw [hb, ho]
        exact fun z => by cases z
      · have h : ([Cell.nd kd (cds.map .d)])[k]? = some (.nd kd' es) := h
        cases k with
        | zero =>
          cases h
          exact ⟨a, cvs, rfl, ca, VEs.ofReps rc⟩
        | succ k => simp at h
      · show (((E.r 0 :: ds.map E.d).map some) ++ List.replicate (N.length - (E.r 0 :: ds.map E.d).length) none).length = (L2.start N (.ref a :: rest)).length
        unfold L2.start
        simp [r.length]
    · have fin : ∀ {as' : List Addr} {G' H' : Hp} {σ' : L2.St} {s' : DL.S}, Cz (cxOf CX0 P w K mg base N qual (defScope st) f cdv A outer s H Ex).nox ⟨G, H, [a]⟩ as' G' H' σ' s' → ∀ b o, b ≠ a → H b = some o → H' b = some o := fun {as' G' H' σ' s'} c b o hb q => c.frame b o q (by simpa using hb)
      have cell : ∀ {as' : List Addr} {G' H' : Hp} {σ' : L2.St} {s' : DL.S} {kd' : Kd} {es' : List E} {cds' : List D}, Cz (cxOf CX0 P w K mg base N qual (defScope st) f cdv A outer s H Ex).nox ⟨G, H, [a]⟩ as' G' H' σ' s' → nth s'.ce 0 = some (.nd kd' es') → dsOf es' = some cds' →
          ∃ cvs', CellAt H' a cvs' kd' ∧ Reps K G' cvs' cds' := fun {as' G' H' σ' s' kd' es' cds'} c q1 q2 => by
        rw [nth_eq] at q1
        obtain ⟨b, ws, g1, g2, g3⟩ := c.cells 0 _ _ q1
        have : as'[0]? = some a := pre_get c.pre (k := 0) (a := a) rfl
        rw [this] at g1
        cases g1
        rw [dsOf_eq q2] at g3
        exact ⟨ws, g2, g3.reps⟩
      refine ⟨fun as' G' H' σ' s' c x ⟨kd', es', cds', q1, q2, q⟩ => ?_, fun v as' G' H' σ' e' s' c x ve ⟨kd', es', cds', q1, q2, q⟩ => ?_, fun _ _ _ _ _ _ _ q => q.elim, fun _ _ _ _ _ _ _ q => q.elim⟩
      · obtain ⟨cvs', y1, y2⟩ := cell c q1 q2
        exact q .non G' H' cvs' (fin c) c.base c.sub c.new y1 y2 .non
      · obtain ⟨cvs', y1, y2⟩ := cell c q1 q2
        cases e' with
        | d y => exact q v G' H' cvs' (fin c) c.base c.sub c.new y1 y2 ve
        | r j =>
          obtain ⟨kd, es, ds', q1, q2, q3, q4⟩ := q
          rw [nth_eq] at q1
          obtain ⟨b, h1, h2⟩ := ve
          obtain ⟨b', ws, g1, g2, g3⟩ := c.cells j _ _ q1
          rw [h1] at g1
          cases g1
          rw [dsOf_eq q2] at g3
          refine q4 v G' H' cvs' (fin c) c.base c.sub c.new y1 y2 ⟨b, ws, h2, (c.fresh b (List.mem_of_getElem? h1)).resolve_left fun z => ?_, c.own j b _ _ h1 q1, g2, g3.reps⟩
          have hb : b = a := by simpa using z
          subst hb
          have w0 : as'[0]? = some b := pre_get c.pre (k := 0) (a := b) rfl
          obtain ⟨l1, e1⟩ := List.getElem?_eq_some_iff.mp h1
          obtain ⟨l2, e2⟩ := List.getElem?_eq_some_iff.mp w0
          have := (List.getElem_inj c.nd).mp (e1.trans e2.symm)
          have har := c.har
          have : s'.ar = 1 := har.symm
          omega
theorem fn_C {R : RC1} (F : Fun K x qual st f fd) (S : FnScope N ps (defScope st)) (hlen : ∀ kd cds ds post, R kd cds ds post → ds.length + 1 = ps.length)
    (body : ∀ (X : Cx) (F : Fr) (kd : Kd) (cds ds : List D) (post : Rt → Kd → List D → Prop), XIs X P w K mg base N (defScope st) k → (∀ y, X.fn y = true) → X.H_0 = F.H0 → R kd cds ds post → JSs X F (defBody st) (entry N (.r 0 :: ds.map .d) [.nd kd (cds.map .d)] 1)
      { nx := fun s => ∃ kd' es' cds', nth s.ce 0 = some (.nd kd' es') ∧ dsOf es' = some cds' ∧ post (.dat .non) kd' cds', rt := fun e s => ∃ kd' es' cds', nth s.ce 0 = some (.nd kd' es') ∧ dsOf es' = some cds' ∧ RtE (fun r => post r kd' cds') e s }) :
    FnOk P w K mg base CX0 (k + 1) f fd ps (spC K R) :=
  fn_CT F S hlen fun X F kd cds ds post hX hfn hH _ h => body X F kd cds ds post hX hfn hH h
end
/-! ### calls -/
/-! immutable data -/
mutual
def D.imm : D → Bool
  | .nd .tup ds => D.imms ds
  | .nd .lst _ => false
  | .nd (.dct _) _ => false
  | .nd (.ins _ _) _ => false
  | .nd (.exc _ _ _ _) _ => false
  | .non => true | .bl _ => true | .int _ => true | .str _ => true
def D.imms : List D → Bool
  | [] => true
  | d :: ds => D.imm d && D.imms ds
end
def S.view (s : S) : E → Option D
  | .d x => some x
  | .r k => match nth s.ce k with
    | some (.nd .lst es) => (dsOf es).map (.nd .lst)
    | some (.nd (.dct ks) es) => (dsOf es).map (.nd (.dct ks))
    | _ => none
def S.views (s : S) : List E → Option (List D)
  | [] => some []
  | e :: es => match s.view e, s.views es with
    | some d, some ds => some (d :: ds)
    | _, _ => none
variable {X : Cx} {F : Fr} {s : S}
section
variable {e a b c : Expr} {es rest : List Expr} {Φ : E → S → Prop} {pos p p2 : Pos} {x : Str} {k B : Nat}
def RtΦ (Φ : E → S → Prop) (s : S) : Rt → Prop
  | .dat x => Φ (.d x) s
  | .new kd ds => Φ (.r s.ce.length) (s.push kd (ds.map .d))
theorem rtΦ_dat {d : D} (h : Φ (.d d) s) : RtΦ Φ s (.dat d) := h
theorem rtΦ_new {kd : Kd} {ds : List D} (h : Φ (.r s.ce.length) (s.push kd (ds.map .d))) : RtΦ Φ s (.new kd ds) := h
theorem rtE_d {post : Rt → Prop} {d : D} (h : post (.dat d)) : RtE post (.d d) s := h
theorem Cz.call {as : List Addr} {G H G' H' : Hp} {σ : L2.St} (c : Cz X F as G H σ s) (h1 : Same H H') (h2 : Same G G') (h3 : Same G' H') (h4 : ∀ b, G b = none → H b ≠ none → G' b = none) : Cz X F as G' H' σ s := by
  refine ⟨h3, c.base.trans h2, fun b q1 q2 => ?_, fun b o q1 q2 => h1 b o (c.frame b o q1 q2), c.len, c.pre, c.nd, fun k a kd es q1 q2 => ?_, c.fresh, fun a ha z => ?_, fun k kd es q => ?_, fun i e q => ?_, c.slen, c.har⟩
  · refine h4 b (c.new b q1 q2) fun z => ?_
    cases q : F.H0 b with
    | none => exact q2 q
    | some o =>
      by_cases hA : b ∈ F.A0
      · exact c.there b (c.pre.subset hA) z
      · have := c.frame b o q hA
        rw [z] at this; cases this
  · exact h4 a (c.own k a kd es q1 q2) (c.there a (List.mem_of_getElem? q1))
  · cases q : H a with
    | none => exact c.there a ha q
    | some o => rw [h1 a o q] at z; cases z
  · obtain ⟨a, vs, w1, w2, w3⟩ := c.cells k kd es q
    exact ⟨a, vs, w1, w2.keep fun o q => h1 a o q, w3.mono (List.prefix_refl _) h2⟩
  · obtain ⟨v, w1, w2⟩ := c.slots i e q
    exact ⟨v, w1, w2.mono (List.prefix_refl _) h2⟩
/-- a new owned object that a callee has made -/
theorem Cz.grow {as : List Addr} {G H : Hp} {σ : L2.St} (c : Cz X F as G H σ s) {a : Addr} {vs : List V} {kd : Kd} {es : List E} (h1 : G a = none) (h2 : a ∉ as) (h0 : F.H0 a = none) (h3 : CellAt H a vs kd) (h4 : VEs X.K G as vs es) : Cz X F (as ++ [a]) G H σ (s.push kd es) := by
  have pr : as <+: as ++ [a] := pre_snoc
  refine ⟨c.sub, c.base, c.new, c.frame, ?_, c.pre.trans pr, ?_, fun k b kd' es' q1 q2 => ?_, fun b hb => ?_, fun b hb => ?_, fun k kd' es' q => ?_, fun i e q => ?_, c.slen, c.har⟩
  · show (as ++ [a]).length = (s.ce ++ [Cell.nd kd es]).length
    rw [List.length_append, List.length_append, c.len]; rfl
  · rw [List.nodup_append]
    exact ⟨c.nd, by simp, fun b hb d hd => by
      have : d = a := by simpa using hd
      subst this
      exact fun z => h2 (z ▸ hb)⟩
  · have q2 : (s.ce ++ [Cell.nd kd es])[k]? = some (.nd kd' es') := q2
    by_cases hk : k < as.length
    · rw [List.getElem?_append_left hk] at q1
      rw [List.getElem?_append_left (by rw [← c.len]; exact hk)] at q2
      exact c.own k b _ _ q1 q2
    · rw [List.getElem?_append_right (by omega)] at q1
      have : b = a := by simpa using List.mem_of_getElem? q1
      rw [this]; exact h1
  · rcases List.mem_append.mp hb with hb | hb
    · exact c.fresh b hb
    · have : b = a := by simpa using hb
      rw [this]; exact .inr h0
  · rcases List.mem_append.mp hb with hb | hb
    · exact c.there b hb
    · have : b = a := by simpa using hb
      rw [this]
      obtain ⟨o, ho⟩ := h3.some
      rw [ho]; exact fun z => by cases z
  · have q : (s.ce ++ [Cell.nd kd es])[k]? = some (.nd kd' es') := q
    by_cases hk : k < as.length
    · rw [List.getElem?_append_left (by rw [← c.len]; exact hk)] at q
      obtain ⟨b, ws, w1, w2, w3⟩ := c.cells k _ _ q
      exact ⟨b, ws, pre_get pr w1, w2, w3.mono pr (Same.refl _)⟩
    · rw [List.getElem?_append_right (by rw [← c.len]; omega)] at q
      have l := (List.getElem?_eq_some_iff.mp q).1
      have hk0 : k - s.ce.length = 0 := by simp at l; exact l
      rw [hk0] at q
      cases q
      have hke : k = as.length := by have := c.len; omega
      exact ⟨a, vs, by rw [hke, List.getElem?_append_right (Nat.le_refl _)]; simp, h3, h4.mono pr (Same.refl _)⟩
  · obtain ⟨v, w1, w2⟩ := c.slots i e q
    exact ⟨v, w1, w2.mono pr (Same.refl _)⟩
theorem je_callP {R : RP} (cb : CbP X x k R) (bx : Bx X B) (hB : k ≤ B)
    (h : JA X F (a :: es) s fun vs s1 => ∃ ds, dsOf vs = some ds ∧ R ds (RtΦ Φ s1)) (hdb : (x == ("__debug__" : Str)) = false := by decide) (he : starEach (a :: es) X.env = (false, eval a X.env) :: starEach es X.env := by rfl)
    (hpl : (backTo pos (starEach es X.env)).any (·.1) = false := by rfl) : JE X F (.Call (.Name x p) (a :: es) [] pos) s Φ := by
  obtain ⟨f, fd, ps, h1, h2, h3, h4⟩ := cb.ex
  refine je_of (pe_call h4 (bx.room.mono hB) cb.gl h1 h2 h3 .nil pass0 (pa_sem X _) hdb he hpl) fun as G H σ Q c kk => h as G H σ _ c fun vs as1 G1 H1 es1 s1 c1 x1 ves ⟨ds, e1, hR⟩ => ?_
  rw [List.append_nil]
  rw [dsOf_eq e1] at ves
  refine ⟨G1, ds, c1.sub, ves.reps, cb.mono ds _ _ (fun r hr v G' H' q1 q2 q3 q4 q5 => ?_) hR⟩
  have c2 := c1.call q1 q2 q3 q4
  have x2 : Ext as1 as1 G1 G' := ⟨List.prefix_refl _, q2⟩
  cases r with
  | dat y => exact kk v as1 G' H' (.d y) s1 c2 (x1.trans x2) q5 hr
  | new kd ds' =>
    obtain ⟨b, ws, rfl, w1, w2, w3, w4⟩ := q5
    have c3 := c2.grow (kd := kd) (es := ds'.map .d) w2 (c1.notin w1) (c1.h0none w1) w3 (VEs.ofReps w4)
    exact kk _ _ G' H' (.r s1.ce.length) _ c3 ((x1.trans x2).trans ⟨pre_snoc, Same.refl _⟩) ⟨b, by rw [← c1.len, List.getElem?_append_right (Nat.le_refl _)]; simp, rfl⟩ hr
theorem je_callC {R : RC1} (cb : CbC X x k R) (bx : Bx X B) (hB : k ≤ B)
    (h : JA X F (a :: es) s fun vs s1 => ∃ j rest ds es0 cds, vs = .r j :: rest ∧ dsOf rest = some ds ∧ nth s1.ce j = some (.nd .lst es0) ∧ dsOf es0 = some cds ∧ R .lst cds ds fun r kd' cds' => RtΦ Φ (s1.put j kd' (cds'.map .d)) r) (hdb : (x == ("__debug__" : Str)) = false := by decide)
    (he : starEach (a :: es) X.env = (false, eval a X.env) :: starEach es X.env := by rfl) (hpl : (backTo pos (starEach es X.env)).any (·.1) = false := by rfl) : JE X F (.Call (.Name x p) (a :: es) [] pos) s Φ := by
  obtain ⟨f, fd, ps, h1, h2, h3, h4⟩ := cb.ex
  refine je_of (pe_call h4 (bx.room.mono hB) cb.gl h1 h2 h3 .nil pass0 (pa_sem X _) hdb he hpl) fun as G H σ Q c kk => h as G H σ _ c fun vs as1 G1 H1 es1 s1 c1 x1 ves ⟨j, rest, ds, es0, cds, e0, e1, e2, e3, hR⟩ => ?_
  rw [List.append_nil]
  subst e0
  rw [dsOf_eq e1] at ves
  rw [nth_eq] at e2
  cases ves with
  | cons v1 v2 =>
    obtain ⟨a, ha, rfl⟩ := v1
    obtain ⟨a', cvs, g1, g2, g3⟩ := c1.cells j _ _ e2
    rw [ha] at g1
    cases g1
    rw [dsOf_eq e3] at g3
    have ga := c1.own j a _ _ ha e2
    refine ⟨a, _, cvs, .lst, cds, ds, G1, rfl, c1.sub, ga, g2, g3.reps, (VEs.reps v2), cb.mono _ _ _ _ _ (fun r kd' cds' hr v G' H' cvs' q1 q2 q3 q4 q5 q6 q7 => ?_) hR⟩
    -- the state behind: H' is H'' with a written, H'' what keeps all
    have am := List.mem_of_getElem? ha
    have gn' : G' a = none := q4 a ga (c1.there a am)
    obtain ⟨o', ho'⟩ := q5.some
    have inj : ∀ {i : Nat} {b : Addr}, as1[i]? = some b → b = a → i = j := fun {i b} q e => by
      subst e
      obtain ⟨l1, e1⟩ := List.getElem?_eq_some_iff.mp q
      obtain ⟨l2, e2⟩ := List.getElem?_eq_some_iff.mp ha
      exact (List.getElem_inj c1.nd).mp (e1.trans e2.symm)
    have g2' : H1 a = some (.lst cvs) := g2
    have hsame : Same H1 (upd H' a (.lst cvs)) := fun b o q => by
      by_cases hb : b = a
      · subst hb; rw [upd_same, ← g2', q]
      · rw [upd_ne hb]; exact q1 b o hb q
    have c2 : Cz X F as1 G' (upd H' a (.lst cvs)) σ s1 := c1.call hsame q2 (fun b o q => by
      have hb : b ≠ a := fun z => by rw [z, gn'] at q; cases q
      rw [upd_ne hb]; exact q3 b o q) q4
    have eH : upd (upd H' a (.lst cvs)) a o' = H' := by
      rw [upd_upd]
      funext b
      unfold upd
      by_cases hb : b = a
      · rw [if_pos hb, hb, ho']
      · rw [if_neg hb]
    have c3 : Cz X F as1 G' H' σ (s1.put j kd' (cds'.map .d)) := by
      have := c2.put (kd := kd') (es := cds'.map .d) (vs := cvs') (o := o') e2 ha (by rw [eH]; exact q5) (VEs.ofReps q6)
      rw [eH] at this
      exact this
    have x2 : Ext as1 as1 G1 G' := ⟨List.prefix_refl _, q2⟩
    cases r with
    | dat y => exact kk v as1 G' H' (.d y) _ c3 (x1.trans x2) q7 hr
    | new kd2 ds' =>
      obtain ⟨b, ws, rfl, w1, w2, w3, w4⟩ := q7
      have c4 := c3.grow (kd := kd2) (es := ds'.map .d) w2 (c1.notin w1) (c1.h0none w1) w3 (VEs.ofReps w4)
      refine kk _ _ G' H' (.r (s1.put j kd' (cds'.map .d)).ce.length) _ c4 ((x1.trans x2).trans ⟨pre_snoc, Same.refl _⟩) ⟨b, ?_, rfl⟩ hr
      have hl : (s1.put j kd' (cds'.map .d)).ce.length = as1.length := by
        show (setN s1.ce j _).length = _
        rw [setN_eq, List.length_set, c1.len]
      rw [hl, List.getElem?_append_right (Nat.le_refl _)]
      simp
/-! borrowed cells -/
theorem imm_keep {K : PySem.W.Frag} {G G2 : Hp} (ht : ∀ a vs, Rd G a (.tup vs) → Rd G2 a (.tup vs)) : (∀ (d : D) (v : V), Rep K G v d → d.imm = true → Rep K G2 v d) := by
  have main : ∀ n : Nat, (∀ (d : D) (v : V), sizeOf d < n → Rep K G v d → d.imm = true → Rep K G2 v d) ∧ (∀ (ds : List D) (vs : List V), sizeOf ds < n → Reps K G vs ds → D.imms ds = true → Reps K G2 vs ds) := by
    intro n
    induction n with
    | zero => exact ⟨fun _ _ h => absurd h (Nat.not_lt_zero _), fun _ _ h => absurd h (Nat.not_lt_zero _)⟩
    | succ n ih =>
      refine ⟨fun d v hs h hi => ?_, fun ds vs hs h hi => ?_⟩
      · cases h with
        | non => exact .non
        | bl b => exact .bl b
        | int i => exact .int i
        | str x => exact .str x
        | @nd a ws k es nd r =>
          cases k with
          | tup =>
            have hi' : D.imms es = true := by simpa [D.imm] using hi
            refine .nd ?_ (ih.2 es ws (by simp at hs; omega) r hi')
            rcases nd with h | h
            · exact .inl (ht _ _ h)
            · exact .inr h
          | _ => simp [D.imm] at hi
      · cases h with
        | nil => exact .nil
        | @cons v d ws es h t =>
          simp [D.imms] at hi
          exact .cons (ih.1 d v (by simp at hs; omega) h hi.1) (ih.2 es ws (by simp at hs; omega) t hi.2)
  exact fun d v h hi => (main (sizeOf d + 1)).1 d v (Nat.lt_succ_self _) h hi
theorem imm_keeps {K : PySem.W.Frag} {G G2 : Hp} (ht : ∀ a vs, Rd G a (.tup vs) → Rd G2 a (.tup vs)) : ∀ (ds : List D) (vs : List V), Reps K G vs ds → D.imms ds = true → Reps K G2 vs ds
  | _, _, .nil, _ => .nil
  | _, _, .cons h t, hi => by
    simp [D.imms] at hi
    exact .cons (imm_keep ht _ _ h hi.1) (imm_keeps ht _ _ t hi.2)
def Rt.imm : Rt → Bool
  | .dat x => x.imm
  | .new _ ds => D.imms ds
/-- the heap in which the owned cells are read, not written -/
def Alive (s : S) (as : List Addr) (b : Addr) : Prop := ∃ (k : Nat) (kd : Kd) (es : List E), as[k]? = some b ∧ s.ce[k]? = some (.nd kd es)
open Classical in
noncomputable def lend (s : S) (as : List Addr) (G H : Hp) : Hp := fun b => match G b with
  | some o => some o
  | none => if Alive s as b then H b else none
theorem lend_sub {as : List Addr} {G H : Hp} : Same G (lend s as G H) := fun b o h => by unfold lend; rw [h]
theorem lend_yes {as : List Addr} {G H : Hp} {b : Addr} (h : G b = none) (a : Alive s as b) : lend s as G H b = H b := by unfold lend; rw [h]; exact if_pos a
theorem lend_no {as : List Addr} {G H : Hp} {b : Addr} (h : G b = none) (a : ¬ Alive s as b) : lend s as G H b = none := by unfold lend; rw [h]; exact if_neg a
theorem lend_in {as : List Addr} {G H : Hp} (e : Same G H) : Same (lend s as G H) H := fun b o h => by
  cases q : G b with
  | some u => rw [lend_sub b u q] at h; rw [e b u q]; exact h
  | none =>
    by_cases a : Alive s as b
    · rw [lend_yes q a] at h; exact h
    · rw [lend_no q a] at h; cases h
theorem Cz.view {as : List Addr} {G H : Hp} {σ : L2.St} (c : Cz X F as G H σ s) {v : V} {e : E} {d : D} (ve : VE X.K G as v e) (h : s.view e = some d) : Rep X.K (lend s as G H) v d := by
  cases e with
  | d x => cases h; exact Rep.mono lend_sub ve
  | r k =>
    obtain ⟨a, h1, rfl⟩ := ve
    have h : (match nth s.ce k with
      | some (.nd .lst es) => (dsOf es).map (.nd .lst)
      | some (.nd (.dct ks) es) => (dsOf es).map (.nd (.dct ks))
      | _ => none) = some d := h
    rw [nth_eq] at h
    have key : ∀ {kd : Kd} {es : List E} {ds : List D}, s.ce[k]? = some (.nd kd es) → dsOf es = some ds → Rep X.K (lend s as G H) (.ref a) (.nd kd ds) := fun {kd es ds} q1 q2 => by
      obtain ⟨b, vs, g1, g2, g3⟩ := c.cells k _ _ q1
      rw [h1] at g1
      cases g1
      rw [dsOf_eq q2] at g3
      have la : ∀ o, H a = some o → lend s as G H a = some o := fun o q => by
        rw [lend_yes (c.own k a _ _ h1 q1) ⟨k, _, _, h1, q1⟩]
        exact q
      have : CellAt (lend s as G H) a vs kd := g2.keep la
      exact .nd this.node (g3.reps.mono lend_sub)
    cases hc : s.ce[k]? with
    | none => rw [hc] at h; cases h
    | some cl =>
      rw [hc] at h
      cases cl with
      | gone => cases h
      | nd kd es =>
        cases kd with
        | lst =>
          cases q : dsOf es with
          | none => simp [q] at h
          | some ds => simp [q] at h; subst h; exact key hc q
        | dct ks =>
          cases q : dsOf es with
          | none => simp [q] at h
          | some ds => simp [q] at h; subst h; exact key hc q
        | tup => cases h
        | ins C fs => cases h
        | exc _ _ _ _ => cases h
theorem Cz.views {as : List Addr} {G H : Hp} {σ : L2.St} (c : Cz X F as G H σ s) : ∀ {vs : List V} {es : List E} {ds : List D}, VEs X.K G as vs es → s.views es = some ds → Reps X.K (lend s as G H) vs ds
  | _, _, ds, .nil, h => by cases h; exact .nil
  | _, e :: es, ds, .cons h t, q => by
    unfold S.views at q
    cases q1 : s.view e with
    | none => rw [q1] at q; simp at q
    | some d =>
      cases q2 : s.views es with
      | none => rw [q1, q2] at q; simp at q
      | some ds' =>
        rw [q1, q2] at q
        simp at q
        subst q
        exact .cons (c.view h q1) (c.views t q2)
theorem je_callB {R : RP} (cb : CbP X x k R) (bx : Bx X B) (hB : k ≤ B)
    (h : JA X F (a :: es) s fun vs s1 => ∃ ds, s1.views vs = some ds ∧ R ds fun r => r.imm = true ∧ RtΦ Φ s1 r) (hdb : (x == ("__debug__" : Str)) = false := by decide) (he : starEach (a :: es) X.env = (false, eval a X.env) :: starEach es X.env := by rfl)
    (hpl : (backTo pos (starEach es X.env)).any (·.1) = false := by rfl) : JE X F (.Call (.Name x p) (a :: es) [] pos) s Φ := by
  obtain ⟨f, fd, ps, h1, h2, h3, h4⟩ := cb.ex
  refine je_of (pe_call h4 (bx.room.mono hB) cb.gl h1 h2 h3 .nil pass0 (pa_sem X _) hdb he hpl) fun as G H σ Q c kk => h as G H σ _ c fun vs as1 G1 H1 es1 s1 c1 x1 ves ⟨ds, e1, hR⟩ => ?_
  rw [List.append_nil]
  refine ⟨lend s1 as1 G1 H1, ds, lend_in c1.sub, c1.views ves e1, cb.mono ds _ _ (fun r ⟨hi, hr⟩ v G' H' q1 q2 q3 q4 q5 => ?_) hR⟩
  -- what is frozen behind: G' without the owned
  obtain ⟨G2, hG2, hG3⟩ : ∃ G2 : Hp, (∀ b, Alive s1 as1 b → G2 b = none) ∧ ∀ b, ¬ Alive s1 as1 b → G2 b = G' b := by
    classical
    exact ⟨fun b => if Alive s1 as1 b then none else G' b, fun b h => if_pos h, fun b h => if_neg h⟩
  have ga : ∀ {b : Addr}, Alive s1 as1 b → G1 b = none := fun {b} ⟨k, kd, es, w1, w2⟩ => c1.own k b _ _ w1 w2
  have s1' : Same G1 G2 := fun b o q => by
    rw [hG3 b (fun z => by rw [ga z] at q; cases q)]
    exact q2 b o (lend_sub b o q)
  have s2' : Same G2 H' := fun b o q => by
    by_cases hb : Alive s1 as1 b
    · rw [hG2 b hb] at q; cases q
    · rw [hG3 b hb] at q; exact q3 b o q
  have s4' : ∀ b, G1 b = none → H1 b ≠ none → G2 b = none := fun b w1 w2 => by
    by_cases hb : Alive s1 as1 b
    · exact hG2 b hb
    · rw [hG3 b hb]
      exact q4 b (lend_no w1 hb) w2
  have c2 := c1.call q1 s1' s2' s4'
  have x2 : Ext as1 as1 G1 G2 := ⟨List.prefix_refl _, s1'⟩
  -- a tuple is no owned cell
  have tups : ∀ a vs, Rd G' a (.tup vs) → Rd G2 a (.tup vs) := fun b ws hb => by
    have nb : ¬ Alive s1 as1 b := fun z => by
      have w0 := ga z
      obtain ⟨j, kd, es, hj, hcl⟩ := z
      obtain ⟨b', us, g1, g2, g3⟩ := c1.cells j _ _ hcl
      rw [hj] at g1
      cases g1
      obtain ⟨o, ho⟩ := g2.some
      have hG' : G' b = some o := q2 b o (by rw [lend_yes w0 ⟨j, kd, es, hj, hcl⟩]; exact ho)
      have g2' : CellAt G' b us kd := g2.keep fun u q => by rw [ho] at q; cases q; exact hG'
      rcases hb with hb | ⟨oo, hb⟩
      · cases kd with
        | tup => exact g2'
        | lst => have : G' b = some (.lst us) := g2'; rw [hb] at this; cases this
        | dct ks => obtain ⟨_, _, _, this⟩ := g2'; rw [hb] at this; cases this
        | ins C fs => obtain ⟨_, _, this⟩ := g2'; rw [hb] at this; cases this
        | exc _ _ _ _ => exact g2'
      · cases kd with
        | tup => exact g2'
        | lst => have : G' b = some (.lst us) := g2'; rw [hb] at this; cases this
        | dct ks => obtain ⟨_, _, _, this⟩ := g2'; rw [hb] at this; cases this
        | ins C fs => obtain ⟨_, _, this⟩ := g2'; rw [hb] at this; cases this
        | exc _ _ _ _ => exact g2'
    rcases hb with hb | ⟨oo, hb⟩
    · exact .inl (by rw [hG3 b nb]; exact hb)
    · exact .inr ⟨oo, by rw [hG3 b nb]; exact hb⟩
  cases r with
  | dat y => exact kk v as1 G2 H' (.d y) s1 c2 (x1.trans x2) (imm_keep tups _ _ q5 hi) hr
  | new kd ds' =>
    obtain ⟨b, ws, rfl, w1, w2, w3, w4⟩ := q5
    have gb : G2 b = none := by
      by_cases hb : Alive s1 as1 b
      · exact hG2 b hb
      · rw [hG3 b hb]; exact w2
    have c3 := c2.grow (kd := kd) (es := ds'.map .d) gb (c1.notin w1) (c1.h0none w1) w3 (VEs.ofReps (imm_keeps tups _ _ w4 hi))
    exact kk _ _ G2 H' (.r s1.ce.length) _ c3 ((x1.trans x2).trans ⟨pre_snoc, Same.refl _⟩) ⟨b, by rw [← c1.len, List.getElem?_append_right (Nat.le_refl _)]; simp, rfl⟩ hr
end
end DL
namespace DL
open PySem PySem.Spec PyProof.Rows L2
variable {X : Cx} {F : Fr} {s : S}
/-! ### what is walked -/
def semI (X : Cx) (tg iter : Expr) : TI := fun σ H R => ∀ pins st, Inv X pins σ H st → wpAny (model X.prog X.w) X.A (eval iter X.env) (fun v s1 => wpAny (model X.prog X.w) X.A (pyIter v) (PIE X pins σ tg R) X.xe s1) X.xe st
theorem pi_sem (X : Cx) (tg iter : Expr) : PI X tg iter (semI X tg iter) := ⟨fun pins s σ H R I h => h pins s I⟩
theorem PI.sem {X : Cx} {tg iter : Expr} {t : TI} (h : PI X tg iter t) {σ : L2.St} {H : Hp} {R : It → Hp → Prop} (q : t σ H R) : semI X tg iter σ H R := fun pins s I => h.run pins s σ H R I q
/-- n turns, at the i-th a thing of it i -/
structure ItOk (X : Cx) (F : Fr) (J : It) (n : Nat) (it : Nat → E → Prop) (as : List Addr) (G : Hp) : Prop where
  stop : ∀ as' G' H' σ' s', Cz X F as' G' H' σ' s' → Same G G' → J.stop n H'
  go : ∀ i as' G' H' σ' s', i < n → Cz X F as' G' H' σ' s' → Same G G' → J.go i H'
  yld : ∀ i as' G' H' σ' s' x H2, i < n → Cz X F as' G' H' σ' s' → Same G G' → J.yld i H' x H2 → ∃ G2 e, Cz X F as' G2 H2 σ' s' ∧ (Same G' G2 ∧ ∀ b, H' b ≠ none → G' b = none → G2 b = none) ∧ VE X.K G2 as' x e ∧ it i e
  keep : ∀ i as' G' H' σ' s' x H2, i < n → Cz X F as' G' H' σ' s' → Same G G' → J.yld i H' x H2 → Same H' H2
def JI (X : Cx) (F : Fr) (tg iter : Expr) (s : S) (Θ : Nat → (Nat → E → Prop) → S → Prop) : Prop := ∀ as G H σ (R : It → Hp → Prop), Cz X F as G H σ s →
  (∀ J as1 G1 H1 s1 n it, Cz X F as1 G1 H1 σ s1 → Ext as as1 G G1 → ItOk X F J n it as1 G1 → Θ n it s1 → R J H1) → semI X tg iter σ H R
/-- a whole frozen list, by its items -/
def itL (ds : List D) : Nat → E → Prop := fun i e => ∃ d, ds[i]? = some d ∧ e = .d d
section
variable {e a b c tg iter : Expr} {es rest : List Expr} {body : List Stmt} {P : Po} {pos p : Pos} {x : Str} {k B : Nat} {Θ : Nat → (Nat → E → Prop) → S → Prop}
theorem ji_lst (h : JE X F iter s fun e s1 => ∃ ds, e = .d (.nd .lst ds) ∧ Θ ds.length (itL ds) s1) : JI X F tg iter s Θ := fun as G H σ R c k =>
  PI.sem (pi_list (pe_sem X iter)) (h as G H σ _ c fun v as1 G1 H1 e1 s1 c1 x1 ve ⟨ds, e2, q⟩ => by
    subst e2
    cases ve with
    | @nd a vs _ _ n r =>
      have n : SqL X.K G1 a vs := n
      refine ⟨a, rfl, ⟨vs, (show NodeAt X.K G1 a vs .lst from n).mono c1.sub⟩, k (Itl X.K a) as1 G1 H1 s1 ds.length (itL ds) c1 x1 ?_ q⟩
      have at_ : ∀ {as' : List Addr} {G' H' : Hp} {σ' : L2.St} {s' : S}, Cz X F as' G' H' σ' s' → Same G1 G' → SqL X.K H' a vs := fun c' x => ((show NodeAt X.K G1 a vs .lst from n).mono x).mono c'.sub
      refine ⟨fun as' G' H' σ' s' c' x => ⟨vs, at_ c' x, by rw [r.length]; exact Nat.le_refl _⟩, fun i as' G' H' σ' s' hi c' x => ⟨vs, vs[i]'(by rw [r.length]; exact hi), at_ c' x, List.getElem?_eq_getElem _⟩, fun i as' G' H' σ' s' y H2 hi c' x q => ?_, fun i as' G' H' σ' s' y H2 hi c' x q => (by obtain ⟨rfl, _⟩ := q; exact Same.refl _)⟩
      obtain ⟨rfl, q⟩ := q
      obtain ⟨d, h1, h2⟩ := r.get' (q vs (at_ c' x))
      exact ⟨G', .d d, c', ⟨Same.refl _, fun _ _ h => h⟩, Rep.mono x h2, d, h1, rfl⟩)
theorem ji_tup (h : JE X F iter s fun e s1 => ∃ ds, e = .d (.nd .tup ds) ∧ Θ ds.length (itL ds) s1) : JI X F tg iter s Θ := fun as G H σ R c k =>
  PI.sem (pi_tup (pe_sem X iter)) (h as G H σ _ c fun v as1 G1 H1 e1 s1 c1 x1 ve ⟨ds, e2, q⟩ => by
    subst e2
    cases ve with
    | @nd a vs _ _ n r =>
      have n : SqT X.K G1 a vs := n
      refine ⟨a, rfl, ⟨vs, (show NodeAt X.K G1 a vs .tup from n).mono c1.sub⟩, k (Itt X.K a) as1 G1 H1 s1 ds.length (itL ds) c1 x1 ?_ q⟩
      have at_ : ∀ {as' : List Addr} {G' H' : Hp} {σ' : L2.St} {s' : S}, Cz X F as' G' H' σ' s' → Same G1 G' → SqT X.K H' a vs := fun c' x => ((show NodeAt X.K G1 a vs .tup from n).mono x).mono c'.sub
      refine ⟨fun as' G' H' σ' s' c' x => ⟨vs, at_ c' x, by rw [r.length]; exact Nat.le_refl _⟩, fun i as' G' H' σ' s' hi c' x => ⟨vs, vs[i]'(by rw [r.length]; exact hi), at_ c' x, List.getElem?_eq_getElem _⟩, fun i as' G' H' σ' s' y H2 hi c' x q => ?_, fun i as' G' H' σ' s' y H2 hi c' x q => (by obtain ⟨rfl, _⟩ := q; exact Same.refl _)⟩
      obtain ⟨rfl, q⟩ := q
      obtain ⟨d, h1, h2⟩ := r.get' (q vs (at_ c' x))
      exact ⟨G', .d d, c', ⟨Same.refl _, fun _ _ h => h⟩, Rep.mono x h2, d, h1, rfl⟩)
/-- a frozen dict's keys -/
def kD : Key → D
  | .inl i => .int i
  | .inr x => .str x
theorem rep_kD {K : PySem.W.Frag} {G : Hp} : ∀ (k : Key), Rep K G (kV k) (kD k)
  | .inl i => .int i
  | .inr x => .str x
theorem ji_keys (h : JE X F iter s fun e s1 => ∃ ks ds, e = .d (.nd (.dct ks) ds) ∧ Θ ks.length (itL (ks.map kD)) s1) : JI X F tg iter s Θ := fun as G H σ R c k =>
  PI.sem (pi_keys (pe_sem X iter)) (h as G H σ _ c fun v as1 G1 H1 e1 s1 c1 x1 ve ⟨ks, ds, e2, q⟩ => by
    subst e2
    cases ve with
    | @nd a vs _ _ n r =>
      obtain ⟨n1, n2, od, n3⟩ := n
      have hl : (ks.zip vs).length = ks.length := by rw [List.length_zip, n1, Nat.min_self]
      refine ⟨a, od, rfl, .inl ⟨ks.zip vs, c1.sub _ _ n3, k (Itk a od (ks.zip vs)) as1 G1 H1 s1 ks.length _ c1 x1 ?_ q⟩⟩
      have at_ : ∀ {as' : List Addr} {G' H' : Hp} {σ' : L2.St} {s' : S}, Cz X F as' G' H' σ' s' → Same G1 G' → H' a = some (.frz od (.dK (ks.zip vs))) := fun c' x => c'.sub _ _ (x _ _ n3)
      refine ⟨fun as' G' H' σ' s' c' x => ⟨at_ c' x, by rw [hl]; exact Nat.le_refl _⟩, fun i as' G' H' σ' s' hi c' x => ⟨at_ c' x, by rw [hl]; exact hi⟩, fun i as' G' H' σ' s' y H2 hi c' x q => ?_, fun i as' G' H' σ' s' y H2 hi c' x q => (by obtain ⟨rfl, _⟩ := q; exact Same.refl _)⟩
      obtain ⟨rfl, kk, v, q1, rfl⟩ := q
      refine ⟨G', .d (kD kk), c', ⟨Same.refl _, fun _ _ h => h⟩, rep_kD kk, kD kk, ?_, rfl⟩
      rw [List.getElem?_map, (List.getElem?_zip_eq_some.mp q1).1]
      rfl)
/-- range -/
def itR (lo : Int) : Nat → E → Prop := fun i e => e = .d (.int (lo + i))
theorem itok_range {lo : Int} {n : Nat} {as : List Addr} {G : Hp} : ItOk X F (Itr lo n) n (itR lo) as G :=
  ⟨fun _ _ _ _ _ _ _ => Nat.le_refl _, fun i _ _ _ _ _ hi _ _ => hi, fun i as' G' H' σ' s' x H2 hi c x1 ⟨q1, q2⟩ => ⟨G', .d (.int (lo + i)), by rw [q1]; exact c, ⟨Same.refl _, fun _ _ h => h⟩, by rw [q2]; exact .int _, rfl⟩, fun i as' G' H' σ' s' x H2 hi c x1 ⟨q1, q2⟩ => by rw [q1]; exact Same.refl _⟩
theorem ji_range1 (g : GlB X "range") (h : JE X F a s fun e s1 => ∃ j : Int, e = .d (.int j) ∧ (-(2 ^ 62) ≤ j ∧ j < 2 ^ 62) ∧ Θ j.toNat (itR 0) s1) (ns : NoStar a := by intro _ _; rfl) : JI X F tg (.Call (.Name "range" p) [a] [] pos) s Θ := fun as G H σ R c k =>
  PI.sem (pi_range1 g.gl g.mg (pa_cons (pe_sem X a) pa_nil (ns _ _)) (hs := by rw [ns]; rfl)) (h as G H σ _ c fun v as1 G1 H1 e1 s1 c1 x1 ve ⟨j, e2, ⟨h1, h2⟩, q⟩ => by
    subst e2
    cases ve
    exact ⟨j, rfl, h1, h2, k _ as1 G1 H1 s1 _ _ c1 x1 itok_range q⟩)
theorem ji_range2 (g : GlB X "range") (h : JE X F a s fun e s1 => JE X F b s1 fun e2 s2 => ∃ i j : Int, e = .d (.int i) ∧ e2 = .d (.int j) ∧ (-(2 ^ 62) ≤ i ∧ i < 2 ^ 62 ∧ -(2 ^ 62) ≤ j ∧ j < 2 ^ 62) ∧ Θ (j - i).toNat (itR i) s2) (ns : NoStar a := by intro _ _; rfl) (ns2 : NoStar b := by intro _ _; rfl) :
    JI X F tg (.Call (.Name "range" p) [a, b] [] pos) s Θ := fun as G H σ R c k =>
  PI.sem (pi_range2 g.gl g.mg (pa_cons (pe_sem X a) (pa_cons (pe_sem X b) pa_nil (ns2 _ _)) (ns _ _)) (hs := by rw [ns, ns2]; rfl) (hs2 := by rw [ns2]; rfl)) (h as G H σ _ c fun v as1 G1 H1 e1 s1 c1 x1 ve h1 => h1 as1 G1 H1 σ _ c1 fun v2 as2 G2 H2 e2 s2 c2 x2 ve2 ⟨i, j, q1, q2, ⟨b1, b2, b3, b4⟩, q⟩ => by
    subst q1 q2
    cases ve
    cases ve2
    exact ⟨i, j, rfl, ⟨b1, b2, b3, b4⟩, k _ as2 G2 H2 s2 _ _ c2 (x1.trans x2) itok_range q⟩)
/-- a text's signs -/
def itS (z : Str) : Nat → E → Prop := fun i e => ∃ cp, z.cps[i]? = some cp ∧ e = .d (.str ⟨#[cp]⟩)
theorem ji_str (h : JE X F iter s fun e s1 => ∃ z, e = .d (.str z) ∧ Θ z.cps.size (itS z) s1) : JI X F tg iter s Θ := fun as G H σ R c k =>
  PI.sem (pi_str (pe_sem X iter)) (h as G H σ _ c fun v as1 G1 H1 e1 s1 c1 x1 ve ⟨z, e2, q⟩ => by
    subst e2
    cases ve
    exact ⟨z, rfl, k _ as1 G1 H1 s1 _ _ c1 x1 ⟨fun _ _ _ _ _ _ _ => Nat.le_refl _, fun i _ _ _ _ _ hi _ _ => hi, fun i as' G' H' σ' s' x H2 hi c x1 ⟨q1, cp, q2, q3⟩ => ⟨G', .d (.str ⟨#[cp]⟩), by rw [q1]; exact c, ⟨Same.refl _, fun _ _ h => h⟩, by rw [q3]; exact .str _, cp, q2, rfl⟩, fun i as' G' H' σ' s' x H2 hi c x1 ⟨q1, cp, q2, q3⟩ => by rw [q1]; exact Same.refl _⟩ q⟩)
/-! ### for -/
theorem for_any {J : It} {n : Nat} {g : TG} {tb : TS} {D : Ends} {σ : L2.St} {H : Hp} (Pv : Nat → L2.St → Hp → Prop) (h0 : Pv 0 σ H) (hst : ∀ σ H, Pv n σ H → J.stop n H) (hgo : ∀ i σ H, i < n → Pv i σ H → J.go i H)
    (hs : ∀ i σ H, i < n → Pv i σ H → ∀ x H', J.yld i H x H' → g x σ H' fun σ2 H2 => tb { D with nx := Pv (i + 1), ct := Pv (i + 1), bk := D.nx } σ2 H2) (hd : ∀ σ H, Pv n σ H → D.nx σ H) :
    ∃ W : Nat → Nat → L2.St → Hp → Prop, (∃ m, W 0 m σ H) ∧ ∀ i m σ H, W i m σ H →
      (J.stop i H ∧ D.nx σ H) ∨ (J.go i H ∧ ∃ N : L2.St → Hp → Prop, (∀ σ' H', N σ' H' → ∃ m', m' < m ∧ W (i + 1) m' σ' H') ∧ ∀ x H', J.yld i H x H' → g x σ H' fun σ2 H2 => tb { D with nx := N, ct := N, bk := D.nx } σ2 H2) := by
  refine ⟨fun i m σ H => m = n - i ∧ i ≤ n ∧ Pv i σ H, ⟨n, by simp, Nat.zero_le _, h0⟩, ?_⟩
  rintro i m σ H ⟨rfl, hi, p⟩
  by_cases hlt : i < n
  · exact .inr ⟨hgo i σ H hlt p, Pv (i + 1), fun σ' H' p' => ⟨n - (i + 1), by omega, rfl, hlt, p'⟩, hs i σ H hlt p⟩
  · have e : i = n := by omega
    subst e
    exact .inl ⟨hst σ H p, hd σ H p⟩
/-- one turn: the target is stored, the body runs -/
def Turn1 (X : Cx) (F : Fr) (tg : Expr) (body : List Stmt) (P : Po) (Nx : S → Prop) (v : E) (s : S) : Prop :=
  JG X F tg v s fun s2 => JSs X F body s2 { nx := Nx, ct := Nx, bk := P.nx, rt := P.rt }
theorem js_for {B : Nat} (bx : Bx X B) (In : Nat → S → Prop) (h : JI X F tg iter s fun n it s1 => In 0 s1 ∧ (∀ i v s', i < n → it i v → In i s' → Turn1 X F tg body P (In (i + 1)) v s') ∧ ∀ s', In n s' → P.nx s')
    (hs : ∀ x, foldedSetIterable iter X.env x = pure x := by intro _; rfl) : JS X F (.For tg iter body [] pos) s P := fun as G H σ D c k =>
  PS.sem (ps_for bx.po bx.calm (pi_sem X tg iter) (pg_sem X tg) (pss_sem X body) hs) (h as G H σ _ c fun J as1 G1 H1 s1 n it c1 x1 ok ⟨h0, ht, hd⟩ => by
    refine for_any (fun i σ' H' => ∃ as' G' s', Cz X F as' G' H' σ' s' ∧ Same G1 G' ∧ In i s') ⟨as1, G1, s1, c1, Same.refl _, h0⟩ (fun σ' H' ⟨as', G', s', c', x', _⟩ => ok.stop as' G' H' σ' s' c' x') (fun i σ' H' hi ⟨as', G', s', c', x', _⟩ => ok.go i as' G' H' σ' s' hi c' x')
      (fun i σ' H' hi ⟨as', G', s', c', x', q⟩ v H2 y => ?_) fun σ' H' ⟨as', G', s', c', x', q⟩ => k.nx as' G' H' σ' s' c' (x1.sub.trans x') (hd s' q)
    obtain ⟨G2, e, c2, ⟨x2, _⟩, ve, hv⟩ := ok.yld i as' G' H' σ' s' v H2 hi c' x' y
    have x3 : Same G1 G2 := x'.trans x2
    refine ht i e s' hi hv q as' G2 H2 σ' v _ c2 ve fun as3 G3 H3 σ3 s3 c3 x4 q3 => ?_
    refine q3 as3 G3 H3 σ3 _ c3 ⟨fun as5 G5 H5 σ5 s5 c5 x5 t => ⟨as5, G5, s5, c5, (x3.trans x4.sub).trans x5, t⟩, fun v as5 G5 H5 σ5 e5 s5 c5 x5 ve t => k.rt v as5 G5 H5 σ5 e5 s5 c5 (x1.sub.trans ((x3.trans x4.sub).trans x5)) ve t, fun as5 G5 H5 σ5 s5 c5 x5 t => k.nx as5 G5 H5 σ5 s5 c5 (x1.sub.trans ((x3.trans x4.sub).trans x5)) t,
      fun as5 G5 H5 σ5 s5 c5 x5 t => ⟨as5, G5, s5, c5, (x3.trans x4.sub).trans x5, t⟩⟩)
/-- while -/
theorem js_while {B : Nat} (bx : Bx X B) (W : S → Prop) (μ : S → Nat) (h0 : W s) (h : ∀ s, W s → JT X F c s fun b s2 => if b = true then JSs X F body s2 { nx := fun s3 => W s3 ∧ μ s3 < μ s, ct := fun s3 => W s3 ∧ μ s3 < μ s, bk := P.nx, rt := P.rt } else P.nx s2) :
    JS X F (.While c body [] pos) s P := fun as G H σ D cz k =>
  PS.sem (ps_while bx.po (pt_sem X c) (pss_sem X body)) (by
    refine ⟨fun m σ' H' => ∃ as' G' s', Cz X F as' G' H' σ' s' ∧ Same G G' ∧ W s' ∧ m = μ s', ⟨_, as, G, s, cz, Same.refl _, h0, rfl⟩, ?_⟩
    rintro m σ' H' ⟨as', G', s', c', x', w, rfl⟩
    refine h s' w as' G' H' σ' _ c' fun b as2 G2 H2 s2 c2 x2 q => ?_
    cases b with
    | true =>
      simp only [if_true] at q ⊢
      refine ⟨fun σ3 H3 => ∃ as3 G3 s3, Cz X F as3 G3 H3 σ3 s3 ∧ Same G G3 ∧ W s3 ∧ μ s3 < μ s', fun σ3 H3 ⟨as3, G3, s3, c3, x3, w3, l3⟩ => ⟨_, l3, as3, G3, s3, c3, x3, w3, rfl⟩, ?_⟩
      exact q as2 G2 H2 σ' _ c2 ⟨fun as5 G5 H5 σ5 s5 c5 x5 t => ⟨as5, G5, s5, c5, (x'.trans x2.sub).trans x5, t⟩, fun v as5 G5 H5 σ5 e5 s5 c5 x5 ve t => k.rt v as5 G5 H5 σ5 e5 s5 c5 ((x'.trans x2.sub).trans x5) ve t, fun as5 G5 H5 σ5 s5 c5 x5 t => k.nx as5 G5 H5 σ5 s5 c5 ((x'.trans x2.sub).trans x5) t,
        fun as5 G5 H5 σ5 s5 c5 x5 t => ⟨as5, G5, s5, c5, (x'.trans x2.sub).trans x5, t⟩⟩
    | false => exact k.nx as2 G2 H2 σ' s2 c2 (x'.trans x2.sub) q)
/-- freezing a cell between two statements -/
theorem jss_frz {sts : List Stmt} {k : Nat} {kd : Kd} {es : List E} {ds : List D} (h1 : nth s.ce k = some (.nd kd es)) (h2 : dsOf es = some ds) (h3 : ∀ C fs, kd ≠ .ins C fs) (h4 : s.ar ≤ k) (h : JSs X F sts (s.fz k (.nd kd ds)) P) : JSs X F sts s P := fun as G H σ D c kk => by
  rw [dsOf_eq h2] at h1
  obtain ⟨a, G2, _, x2, c2, _⟩ := c.fz h1 h3 h4
  exact h as G2 H σ D c2 (kk.ext x2)
/-- forgetting: what follows is shown of less -/
def E.ltB (n : Nat) : Option E → Bool
  | some (.r k) => decide (k < n)
  | _ => true
def Cell.ltB (n : Nat) : Cell → Bool
  | .gone => true
  | .nd _ es => es.all (E.lt n)
theorem Cz.weak' {as : List Addr} {G H : Hp} {σ : L2.St} {s' : S} (c : Cz X F as G H σ s) (w : Wk s s') (h1 : s'.sl.all (E.ltB s'.ce.length) = true) (h2 : s'.ce.all (Cell.ltB s'.ce.length) = true) : Cz X F (as.take s'.ce.length) G H σ s' := by
  refine c.weak w (fun i e he => ?_) fun k kd es hk e he => ?_
  · have := List.all_eq_true.mp h1 _ (List.mem_of_getElem? he)
    cases e with
    | d x => rfl
    | r k => exact this
  · have := List.all_eq_true.mp h2 _ (List.mem_of_getElem? hk)
    exact List.all_eq_true.mp this e he
theorem jss_weak {sts : List Stmt} {s' : S} (w : Wk s s') (h1 : s'.sl.all (E.ltB s'.ce.length) = true) (h2 : s'.ce.all (Cell.ltB s'.ce.length) = true) (h : JSs X F sts s' P) : JSs X F sts s P := fun as G H σ D c k =>
  h _ G H σ D (c.weak' w h1 h2) (k.exs (Same.refl _))
/-- .. at the end of a block -/
theorem jss_end {s' : S} (w : Wk s s') (h1 : s'.sl.all (E.ltB s'.ce.length) = true) (h2 : s'.ce.all (Cell.ltB s'.ce.length) = true) (h : P.nx s') : JSs X F [] s P := jss_weak w h1 h2 (jss_nil h)
end
end DL
namespace DL
open PySem PySem.Spec PyProof.Rows L2
variable {X : Cx} {F : Fr} {s : S}
/-! ### comprehensions -/
structure IsBlk (X : Cx) (scope : Scope) (Y : Cx) : Prop where
  ex : ∃ (st : Shared) (H : Hp) (C : Addr) (cl : List (Str × Addr)) (fp : List Addr), Y = X.blk st H scope (compEnvC scope cl C X.env) fp
theorem IsBlk.K {scope : Scope} {Y : Cx} (h : IsBlk X scope Y) : Y.K = X.K := by obtain ⟨_, _, _, _, _, rfl⟩ := h.ex; rfl
theorem IsBlk.is {scope : Scope} {Y : Cx} {P : Program} {w : World} {K : PySem.W.Frag} {mg : Str → Option Value} {base : Heap} {N : List Str} {sc : Scope} {k : Nat} (h : IsBlk X scope Y) (hX : XIs X P w K mg base N sc k) : XIs Y P w K mg base N (relS scope sc) k := by
  obtain ⟨_, _, _, _, _, rfl⟩ := h.ex
  exact ⟨hX.eP, hX.eW, hX.eK, hX.eM, hX.eB, hX.eN, by rw [← hX.eS]; rfl, hX.calm, hX.nd, PassesOwn.never, hX.room⟩
theorem cz_blk {scope : Scope} {Y : Cx} (h : IsBlk X scope Y) {as : List Addr} {G H : Hp} {σ : L2.St} {s : S} (c : Cz X F as G H σ s) : Cz Y F as G H σ s := by
  obtain ⟨_, _, _, _, _, rfl⟩ := h.ex
  exact ⟨c.sub, c.base, c.new, c.frame, c.len, c.pre, c.nd, c.own, c.fresh, c.there, c.cells, c.slots, c.slen, c.har⟩
theorem cz_ublk {scope : Scope} {Y : Cx} (h : IsBlk X scope Y) {as : List Addr} {G H : Hp} {σ : L2.St} {s : S} (c : Cz Y F as G H σ s) : Cz X F as G H σ s := by
  obtain ⟨_, _, _, _, _, rfl⟩ := h.ex
  exact ⟨c.sub, c.base, c.new, c.frame, c.len, c.pre, c.nd, c.own, c.fresh, c.there, c.cells, c.slots, c.slen, c.har⟩
def wipeN {α : Type} (l : List (Option α)) : List Nat → List (Option α)
  | [] => l
  | v :: vs => setN (wipeN l vs) v none
def S.wipe (s : S) (vs : List Nat) : S := ⟨wipeN s.sl vs, s.ce, s.ar⟩
theorem wipeN_len {α : Type} (l : List (Option α)) : ∀ vs, (wipeN l vs).length = l.length
  | [] => rfl
  | v :: vs => by unfold wipeN; rw [setN_eq, List.length_set, wipeN_len l vs]
theorem wipeN_some {α : Type} {l : List (Option α)} {i : Nat} {x : α} : ∀ {vs : List Nat}, (wipeN l vs)[i]? = some (some x) → l[i]? = some (some x) ∧ i ∉ vs
  | [], h => ⟨h, by simp⟩
  | v :: vs, h => by
    unfold wipeN at h
    rw [setN_eq] at h
    by_cases hi : v = i
    · subst hi
      by_cases hv : v < (wipeN l vs).length
      · rw [List.getElem?_set_self hv] at h; cases h
      · rw [List.getElem?_eq_none (by simpa using hv)] at h; cases h
    · rw [List.getElem?_set_ne hi] at h
      obtain ⟨h1, h2⟩ := wipeN_some h
      exact ⟨h1, by simp only [List.mem_cons, not_or]; exact ⟨fun e => hi e.symm, h2⟩⟩
theorem wipe_out' {σ : L2.St} {i : Nat} {vs : List Nat} (h : i ∉ vs) : (wipe σ vs)[i]? = σ[i]? := by
  induction vs with
  | nil => rfl
  | cons v vs ih =>
    unfold wipe
    rw [List.getElem?_set_ne (fun z => h (by rw [z]; exact List.mem_cons_self)), ih fun z => h (List.mem_cons_of_mem _ z)]
theorem wipe_in {σ : L2.St} {i : Nat} {vs : List Nat} (h : i ∈ vs) (hl : i < σ.length) : (wipe σ vs)[i]? = some none := by
  induction vs with
  | nil => cases h
  | cons v vs ih =>
    unfold wipe
    by_cases hv : v = i
    · subst hv
      rw [List.getElem?_set_self (by rw [wipe_length]; exact hl)]
    · rw [List.getElem?_set_ne hv]
      exact ih ((List.mem_cons.mp h).resolve_left fun z => hv z.symm)
theorem wipe_same {σ τ : L2.St} {vs : List Nat} (hl : σ.length = τ.length) (h : ∀ i, i ∉ vs → σ[i]? = τ[i]?) : wipe σ vs = wipe τ vs := by
  apply List.ext_getElem?
  intro i
  by_cases hi : i ∈ vs
  · by_cases hl1 : i < σ.length
    · rw [wipe_in hi hl1, wipe_in hi (hl ▸ hl1)]
    · rw [List.getElem?_eq_none (by rw [wipe_length]; omega), List.getElem?_eq_none (by rw [wipe_length]; omega)]
  · rw [wipe_out' hi, wipe_out' hi, h i hi]
theorem Cz.wipe {as : List Addr} {G H : Hp} {σ : L2.St} (c : Cz X F as G H σ s) (vs : List Nat) : Cz X F as G H (wipe σ vs) (s.wipe vs) := by
  refine ⟨c.sub, c.base, c.new, c.frame, c.len, c.pre, c.nd, c.own, c.fresh, c.there, c.cells, fun i e he => ?_, ?_, c.har⟩
  · obtain ⟨h1, h2⟩ := wipeN_some (show (wipeN s.sl vs)[i]? = _ from he)
    obtain ⟨v, w1, w2⟩ := c.slots i e h1
    exact ⟨v, by rw [wipe_out' h2]; exact w1, w2⟩
  · show (wipeN s.sl vs).length = _
    rw [wipeN_len, wipe_length]; exact c.slen
/-- the slots of an elder state -/
theorem Cz.back {as as' : List Addr} {G G' H H' : Hp} {σ τ : L2.St} {s' : S} (c : Cz X F as G H σ s) (c' : Cz X F as' G' H' τ s') (x : Ext as as' G G') : Cz X F as' G' H' σ ⟨s.sl, s'.ce, s.ar⟩ :=
  ⟨c'.sub, c'.base, c'.new, c'.frame, c'.len, c'.pre, c'.nd, c'.own, c'.fresh, c'.there, c'.cells, fun i e he => by
    obtain ⟨v, w1, w2⟩ := c.slots i e he
    exact ⟨v, w1, x.ve w2⟩, c.slen, c.har⟩
/-- a clause's tests -/
def JTs (X : Cx) (F : Fr) (ifs : List Expr) (s : S) (Ψ : Bool → S → Prop) : Prop := match ifs with
  | [] => Ψ true s
  | [c] => JT X F c s Ψ
  | _ => False
theorem jts_run {ifs : List Expr} {Ψ : Bool → S → Prop} {Q : Bool → Hp → Prop} {as : List Addr} {G H : Hp} {σ : L2.St} (h : JTs X F ifs s Ψ) (c : Cz X F as G H σ s) (k : ∀ b as' G' H' s', Cz X F as' G' H' σ s' → Ext as as' G G' → Ψ b s' → Q b H') :
    ∀ pins st, Inv X pins σ H st → wpAny (model X.prog X.w) X.A (forIn ifs true fun c r => if r = true then do let ok ← isTrue c X.env (eval c X.env); pure (ForInStep.yield ok) else pure (ForInStep.yield r)) (TP X pins σ Q) X.xe st := by
  match ifs, h with
  | [], h => exact fun pins st I => pts_nil.run pins st σ H Q I (k true as G H s c (Ext.refl _ _) h)
  | [e], h => exact fun pins st I => (pts_one (pt_sem X e)).run pins st σ H Q I (h as G H σ Q c k)
  | _ :: _ :: _, h => exact h.elim
section
variable {elt iter : Expr} {ifs : List Expr} {scope : Scope} {own : List (Str × Nat)} {pos p : Pos} {x : Str} {j B : Nat} {Φ : E → S → Prop}
/-- the block's tests and element, in every block -/
def ttB (X : Cx) (scope : Scope) (ifs : List Expr) : TT := fun σ H Q => ∀ Y, IsBlk X scope Y → ∀ pins st, Inv Y pins σ H st → wpAny (model Y.prog Y.w) Y.A (forIn ifs true fun c r => if r = true then do let ok ← isTrue c Y.env (eval c Y.env); pure (ForInStep.yield ok) else pure (ForInStep.yield r)) (TP Y pins σ Q) Y.xe st
def teB (X : Cx) (scope : Scope) (elt : Expr) : TE := fun σ H Q => ∀ Y, IsBlk X scope Y → semE Y elt σ H Q
theorem pts_B {X : Cx} {scope : Scope} {ifs : List Expr} (st : Shared) (H : Hp) (C : Addr) (cl : List (Str × Addr)) (fp : List Addr) : PTs (X.blk st H scope (compEnvC scope cl C X.env) fp) ifs (ttB X scope ifs) := ⟨fun pins s σ H Q I h => h _ ⟨st, _, C, cl, fp, rfl⟩ pins s I⟩
theorem pe_B {X : Cx} {scope : Scope} {elt : Expr} (st : Shared) (H : Hp) (C : Addr) (cl : List (Str × Addr)) (fp : List Addr) : PE (X.blk st H scope (compEnvC scope cl C X.env) fp) elt (teB X scope elt) := ⟨fun pins s σ H Q I h => h _ ⟨st, _, C, cl, fp, rfl⟩ pins s I⟩
theorem lc_read (hj : j ∈ own.map (·.2))
    (h : JI X F (.Name x p) iter s fun n it s1 => ∃ In : Nat → List E → S → Prop, In 0 [] ((s1.wipe (own.map (·.2))).push .lst []) ∧
      (∀ i v acc s', i < n → it i v → In i acc s' → nth s'.ce s1.ce.length = some (.nd .lst acc) ∧ ∀ Y, IsBlk X scope Y → JTs Y F ifs (s'.set j v) fun b s2 =>
        if b = true then ∀ Y2, IsBlk X scope Y2 → JE Y2 F elt s2 fun y s3 => nth s3.ce s1.ce.length = some (.nd .lst acc) ∧ acc.length < sizeLine ∧ In (i + 1) (acc ++ [y]) ((s3.put s1.ce.length .lst (acc ++ [y])).wipe (own.map (·.2)))
        else In (i + 1) acc (s2.wipe (own.map (·.2)))) ∧
      ∀ acc s', In n acc s' → Φ (.r s1.ce.length) ⟨s1.sl, s'.ce, s1.ar⟩) :
    ∀ as G H σ (Q : VK), Cz X F as G H σ s → (∀ v as' G' H' e' s', Cz X F as' G' H' σ s' → Ext as as' G G' → VE X.K G' as' v e' → Φ e' s' → Q v H') → tLc (semI X (.Name x p) iter) (gName j) (ttB X scope ifs) (teB X scope elt) (own.map (·.2)) σ H Q := by
  refine fun as G H σ Q c k => h as G H σ _ c fun J as1 G1 H1 s1 n it c1 x1 okJ ⟨In, h0, ht, hd⟩ => ?_
  intro D hD
  -- the state of a turn
  have c1' := (c1.wipe (own.map (·.2))).addO (kd := .lst) (o := .lst []) (vs := []) (es := []) hD upd_same .nil
  have hk : s1.ce.length = as1.length := c1.len.symm
  refine ⟨fun i m H' => m = n - i ∧ i ≤ n ∧ ∃ as' G' s' acc, Cz X F as' G' H' (wipe σ (own.map (·.2))) s' ∧ as1 ++ [D] <+: as' ∧ Same G1 G' ∧ In i acc s', ⟨n, by simp, Nat.zero_le _, _, _, _, [], c1', List.prefix_refl _, Same.refl _, h0⟩, ?_⟩
  rintro i m H' ⟨rfl, hi, as', G', s', acc, c', pr, sg, q⟩
  have prD : as'[s1.ce.length]? = some D := pre_get pr (by rw [hk, List.getElem?_append_right (Nat.le_refl _)]; simp)
  by_cases hlt : i < n
  · refine .inr ⟨okJ.go i as' G' H' _ _ hlt c' sg, fun H2 => ∃ as' G' s' acc, Cz X F as' G' H2 (wipe σ (own.map (·.2))) s' ∧ as1 ++ [D] <+: as' ∧ Same G1 G' ∧ In (i + 1) acc s', fun H2 ⟨as2, G2, s2, acc2, c2, p2, g2, q2⟩ => ⟨n - (i + 1), by omega, rfl, hlt, as2, G2, s2, acc2, c2, p2, g2, q2⟩, fun v H2 y => ?_⟩
    obtain ⟨G2, e, c2, ⟨x2, _⟩, ve, hv⟩ := okJ.yld i as' G' H' _ _ v H2 hlt c' sg y
    obtain ⟨t1, t2⟩ := ht i e acc s' hlt hv q
    have c3 := c2.set (i := j) ve
    have ws : wipe ((wipe σ (own.map (·.2))).set j (some v)) (own.map (·.2)) = wipe σ (own.map (·.2)) := wipe_same (by rw [List.length_set, wipe_length]) fun l hl => by
      rw [List.getElem?_set_ne (fun z => hl (by rw [← z]; exact hj)), wipe_out' hl]
    refine ⟨ws, fun Y hY pins st I => jts_run (t2 Y hY) (cz_blk hY c3) (fun b as4 G4 H4 s4 c4 x4 q4 => ?_) pins st I⟩
    cases b with
    | true =>
      simp only [if_true] at q4 ⊢
      refine fun Y2 hY2 => q4 Y2 hY2 as4 G4 H4 _ _ (cz_blk hY2 (cz_ublk hY c4)) fun y as5 G5 H5 y' s5 c5 x5 ve5 ⟨w1, w2, w3⟩ => ?_
      have c5 := cz_ublk hY2 c5
      rw [hY2.K] at ve5
      have p5 : as1 ++ [D] <+: as5 := (pr.trans x4.pre).trans x5.pre
      have prD5 : as5[s1.ce.length]? = some D := pre_get p5 (by rw [hk, List.getElem?_append_right (Nat.le_refl _)]; simp)
      rw [nth_eq] at w1
      obtain ⟨b, ws5, y1, y2, y3⟩ := c5.cells _ _ _ w1
      rw [prD5] at y1
      cases y1
      have y2' : H5 D = some (.lst ws5) := y2
      have hl := Paired.length y3
      refine ⟨ws5, y2', by rw [hl]; exact w2, ?_⟩
      have c6 := (c5.put (kd := .lst) (es := acc ++ [y']) (o := .lst (ws5 ++ [y])) w1 prD5 upd_same (y3.snoc ve5)).wipe (own.map (·.2))
      rw [ws] at c6
      exact ⟨as5, G5, _, _, c6, p5, ((sg.trans x2).trans x4.sub).trans x5.sub, w3⟩
    | false =>
      have c5 := (cz_ublk hY c4).wipe (own.map (·.2))
      rw [ws] at c5
      exact ⟨as4, G4, _, acc, c5, pr.trans x4.pre, (sg.trans x2).trans x4.sub, q4⟩
  · have e : i = n := by omega
    subst e
    refine .inl ⟨okJ.stop as' G' H' _ _ c' sg, ?_⟩
    have x : Ext as1 as' G1 G' := ⟨pre_snoc.trans pr, sg⟩
    exact k _ as' G' H' (.r s1.ce.length) _ (c1.back c' x) (x1.trans x) ⟨D, prD, rfl⟩ (hd acc s' q)
theorem pg_B (hn : ∀ Y, IsBlk X scope Y → NmW Y j x) (st : Shared) (H : Hp) (C : Addr) (cl : List (Str × Addr)) (fp : List Addr) : PG (X.blk st H scope (compEnvC scope cl C X.env) fp) (.Name x p) (gName j) := by
  have := hn _ ⟨st, H, C, cl, fp, rfl⟩
  exact pg_name this.nd this.nm this.loc this.hf
theorem je_lc (bx : Bx X B) (ok : BlkOk X.N X.env.scope scope own) (hj : j ∈ own.map (·.2)) (hn : ∀ Y, IsBlk X scope Y → NmW Y j x)
    (h : JI X F (.Name x p) iter s fun n it s1 => ∃ In : Nat → List E → S → Prop, In 0 [] ((s1.wipe (own.map (·.2))).push .lst []) ∧
      (∀ i v acc s', i < n → it i v → In i acc s' → nth s'.ce s1.ce.length = some (.nd .lst acc) ∧ ∀ Y, IsBlk X scope Y → JTs Y F ifs (s'.set j v) fun b s2 =>
        if b = true then ∀ Y2, IsBlk X scope Y2 → JE Y2 F elt s2 fun y s3 => nth s3.ce s1.ce.length = some (.nd .lst acc) ∧ acc.length < sizeLine ∧ In (i + 1) (acc ++ [y]) ((s3.put s1.ce.length .lst (acc ++ [y])).wipe (own.map (·.2)))
        else In (i + 1) acc (s2.wipe (own.map (·.2)))) ∧
      ∀ acc s', In n acc s' → Φ (.r s1.ce.length) ⟨s1.sl, s'.ce, s1.ar⟩)
    (hs : ∀ x, foldedSetIterable iter X.env x = pure x := by intro _; rfl) : JE X F (.ListComp elt [⟨.Name x p, iter, ifs, 0⟩] scope pos) s Φ :=
  je_of (pe_lc bx.calm bx.nd (pi_sem X _ iter) ok (pg_B hn) pts_B pe_B hs) (lc_read hj h)
/-- name = [..] on one line -/
theorem js_setLc {i : Nat} {y : Str} {py spos : Pos} {P : Po} (bx : Bx X B) (ny : NmW X i y) (ly : X.env.scope.names.lookup y = some .local) (hsw : swapsWith (.ListComp elt [⟨.Name x p, iter, ifs, 0⟩] scope pos) (some (.Name y py)) spos.line X.env = pure true)
    (ok : BlkOk X.N X.env.scope scope own) (hj : j ∈ own.map (·.2)) (hn : ∀ Y, IsBlk X scope Y → NmW Y j x)
    (h : JI X F (.Name x p) iter s fun n it s1 => ∃ In : Nat → List E → S → Prop, In 0 [] ((s1.wipe (own.map (·.2))).push .lst []) ∧
      (∀ i v acc s', i < n → it i v → In i acc s' → nth s'.ce s1.ce.length = some (.nd .lst acc) ∧ ∀ Y, IsBlk X scope Y → JTs Y F ifs (s'.set j v) fun b s2 =>
        if b = true then ∀ Y2, IsBlk X scope Y2 → JE Y2 F elt s2 fun y s3 => nth s3.ce s1.ce.length = some (.nd .lst acc) ∧ acc.length < sizeLine ∧ In (i + 1) (acc ++ [y]) ((s3.put s1.ce.length .lst (acc ++ [y])).wipe (own.map (·.2)))
        else In (i + 1) acc (s2.wipe (own.map (·.2)))) ∧
      ∀ acc s', In n acc s' → P.nx ((⟨s1.sl, s'.ce, s1.ar⟩ : S).set i (.r s1.ce.length)))
    (hs : ∀ x, foldedSetIterable iter X.env x = pure x := by intro _; rfl) : JS X F (.Assign [.Name y py] (.ListComp elt [⟨.Name x p, iter, ifs, 0⟩] scope pos) spos) s P := fun as G H σ D c k =>
  PS.sem (ps_setLc bx.calm bx.nd ny.nm ly hsw (pi_sem X _ iter) ok (pg_B hn) pts_B pe_B hs) (lc_read (Φ := fun e1 s1 => P.nx (s1.set i e1)) hj h as G H σ _ c fun v as1 G1 H1 e1 s1 c1 x1 ve q => k.nx as1 G1 H1 _ _ (c1.set ve) x1.sub q)
end
end DL
namespace DL
open PySem PySem.Spec PyProof.Rows L2
variable {X : Cx} {F : Fr} {s : S}
/-! ### blocks, statement by statement -/
section
variable {e a b c tg iter : Expr} {es rest : List Expr} {st : Stmt} {sts body : List Stmt} {P : Po} {pos p p' : Pos} {x : Str}
theorem jss_set {i : Nat} (n : NmW X i x) (h : JE X F e s fun e1 s1 => JSs X F sts (s1.set i e1) P) (hs : swapsWith e (some (.Name x p')) pos.line X.env = pure false := by rfl) : JSs X F (.Assign [.Name x p'] e pos :: sts) s P :=
  jss_cons (js_set n h hs)
theorem jss_ret (h : JE X F e s P.rt) : JSs X F (.Return (some e) pos :: sts) s P := jss_cons (js_ret h)
theorem jss_retN (h : P.rt (.d .non) s) : JSs X F (.Return none pos :: sts) s P := jss_cons (js_retN h)
theorem jss_break (h : P.bk s) : JSs X F (.Break pos :: sts) s P := jss_cons (js_break h)
theorem jss_cont (h : P.ct s) : JSs X F (.Continue pos :: sts) s P := jss_cons (js_cont h)
theorem jss_expr (h : JE X F e s fun _ s1 => JSs X F sts s1 P) (hs : swapsWith e none pos.line X.env = pure false := by rfl) : JSs X F (.Expr e pos :: sts) s P := jss_cons (js_expr h hs)
theorem jss_doc {z : Str} {j : Nat} (h : JSs X F sts s P) : JSs X F (.Expr (.Constant (.str z) j p) pos :: sts) s P := jss_cons (js_doc h)
theorem jss_asg {tg : Expr} (h : JE X F e s fun e1 s1 => JG X F tg e1 s1 fun s2 => JSs X F sts s2 P) (hs : swapsWithSole [tg] e pos.line X.env = pure false := by rfl) (hw : swappedStores [tg] e X.env = pure none := by rfl)
    (h1 : (assignEach [tg] X.env).map (·.2) = [assign tg X.env] := by rfl) : JSs X F (.Assign [tg] e pos :: sts) s P := jss_cons (js_asg h hs hw h1)
/-- behind an if: both branches come to the rest -/
def Po.then (P : Po) (N : S → Prop) : Po := { P with nx := N }
theorem jss_if {t u : List Stmt} (h : JT X F c s fun k s1 => if k = true then JSs X F t s1 (P.then fun s1 => JSs X F sts s1 P) else JSs X F u s1 (P.then fun s1 => JSs X F sts s1 P)) : JSs X F (.If c t u pos :: sts) s P := jss_cons (js_if h)
/-- an if whose block leaves -/
theorem jss_nilT {N : S → Prop} (h : N s) : JSs X F [] s (P.then N) := jss_nil h
/-- both branches come to M, the rest is shown once -/
theorem jss_ifM {t u : List Stmt} (M : S → Prop) (h : JT X F c s fun k s1 => if k = true then JSs X F t s1 (P.then M) else JSs X F u s1 (P.then M)) (h2 : ∀ s1, M s1 → JSs X F sts s1 P) : JSs X F (.If c t u pos :: sts) s P :=
  jss_cons (js_if (fun as G H σ Q cz k => h as G H σ Q cz fun b as' G' H' s' c' x q => k b as' G' H' s' c' x (by
    cases b with
    | true => exact JSs.mono q (fun s m => h2 s m) (fun _ _ z => z) (fun _ z => z) (fun _ z => z)
    | false => exact JSs.mono q (fun s m => h2 s m) (fun _ _ z => z) (fun _ z => z) (fun _ z => z))))
/-- the last statement -/
theorem jss_if1 {t u : List Stmt} (h : JT X F c s fun k s1 => if k = true then JSs X F t s1 P else JSs X F u s1 P) : JSs X F (.If c t u pos :: []) s P :=
  jss_cons (js_if (fun as G H σ Q cz k => h as G H σ Q cz fun b as' G' H' s' c' x q => k b as' G' H' s' c' x (by
    cases b with
    | true => exact JSs.mono q (fun s m => jss_nil m) (fun _ _ z => z) (fun _ z => z) (fun _ z => z)
    | false => exact JSs.mono q (fun s m => jss_nil m) (fun _ _ z => z) (fun _ z => z) (fun _ z => z))))
/-- an if that returns -/
theorem jss_ifr {e : Expr} {p1 : Pos} (h : JT X F c s fun k s1 => if k = true then JE X F e s1 P.rt else JSs X F sts s1 P) : JSs X F (.If c [.Return (some e) p1] [] pos :: sts) s P :=
  jss_cons (js_if (fun as G H σ Q cz k => h as G H σ Q cz fun b as' G' H' s' c' x q => k b as' G' H' s' c' x (by
    cases b with
    | true => exact jss_ret (P := P.then fun s1 => JSs X F sts s1 P) q
    | false => exact jss_nilT (P := P) (N := fun s1 => JSs X F sts s1 P) q)))
theorem jss_ifbr {p1 : Pos} (h : JT X F c s fun k s1 => if k = true then P.bk s1 else JSs X F sts s1 P) : JSs X F (.If c [.Break p1] [] pos :: sts) s P :=
  jss_cons (js_if (fun as G H σ Q cz k => h as G H σ Q cz fun b as' G' H' s' c' x q => k b as' G' H' s' c' x (by
    cases b with
    | true => exact jss_break (P := P.then fun s1 => JSs X F sts s1 P) q
    | false => exact jss_nilT (P := P) (N := fun s1 => JSs X F sts s1 P) q)))
theorem jss_for {B : Nat} (bx : Bx X B) (In : Nat → S → Prop) (h : JI X F tg iter s fun n it s1 => In 0 s1 ∧ (∀ i v s', i < n → it i v → In i s' → JG X F tg v s' fun s2 => JSs X F body s2 { nx := In (i + 1), ct := In (i + 1), bk := fun s3 => JSs X F sts s3 P, rt := P.rt }) ∧ ∀ s', In n s' → JSs X F sts s' P)
    (hs : ∀ x, foldedSetIterable iter X.env x = pure x := by intro _; rfl) : JSs X F (.For tg iter body [] pos :: sts) s P := jss_cons (js_for bx In h hs)
theorem jss_while {B : Nat} (bx : Bx X B) (W : S → Prop) (μ : S → Nat) (h0 : W s) (h : ∀ s, W s → JT X F c s fun b s2 => if b = true then JSs X F body s2 { nx := fun s3 => W s3 ∧ μ s3 < μ s, ct := fun s3 => W s3 ∧ μ s3 < μ s, bk := fun s3 => JSs X F sts s3 P, rt := P.rt } else JSs X F sts s2 P) :
    JSs X F (.While c body [] pos :: sts) s P := jss_cons (js_while bx W μ h0 h)
theorem jss_par {i j : Nat} {y : Str} {px py pt pt2 : Pos} {kt k2 : Nat} {B : Nat} (bx : Bx X B) (n : NmW X i x) (m : NmW X j y) (hij : i ≠ j) (lx : X.env.scope.names.lookup x = some .local) (ly : X.env.scope.names.lookup y = some .local)
    (hw : swappedStores [.Tuple [.Name x px, .Name y py] kt pt] (.Tuple [a, b] k2 pt2) X.env = pure (some [x, y]))
    (h : JE X F a s fun e1 s1 => JE X F b s1 fun e2 s2 => JSs X F sts ((s2.set i e1).set j e2) P)
    (hs : swapsWithSole [.Tuple [.Name x px, .Name y py] kt pt] (.Tuple [a, b] k2 pt2) pos.line X.env = pure false := by rfl) (ns : NoStar a := by intro _ _; rfl) (ns2 : NoStar b := by intro _ _; rfl) : JSs X F (.Assign [.Tuple [.Name x px, .Name y py] kt pt] (.Tuple [a, b] k2 pt2) pos :: sts) s P :=
  jss_cons (js_par bx n m hij lx ly hw h hs ns ns2)
end
/-! ### branches -/
theorem ite_dec {p A B : Prop} [Decidable p] (h1 : p → A) (h2 : ¬ p → B) : if decide p = true then A else B := by
  by_cases h : p
  · rw [if_pos (decide_eq_true h)]; exact h1 h
  · rw [if_neg (by simpa using h)]; exact h2 h
theorem ite_ndec {p A B : Prop} [Decidable p] (h1 : ¬ p → A) (h2 : p → B) : if (!decide p) = true then A else B := by
  by_cases h : p
  · rw [if_neg (by simpa using h)]; exact h2 h
  · rw [if_pos (by simpa using h)]; exact h1 h
theorem ite_bool {b : Bool} {A B : Prop} (h1 : b = true → A) (h2 : b = false → B) : if b = true then A else B := by
  cases b with
  | true => exact h1 rfl
  | false => exact h2 rfl
theorem ite_nbool {b : Bool} {A B : Prop} (h1 : b = false → A) (h2 : b = true → B) : if (!b) = true then A else B := by
  cases b with
  | true => exact h2 rfl
  | false => exact h1 rfl
theorem ite_nT {A B : Prop} (h : B) : if (!true) = true then A else B := h
theorem ite_nF {A B : Prop} (h : A) : if (!false) = true then A else B := h
end DL
namespace DL
open PySem PySem.Spec PyProof.Rows L2
variable {X : Cx} {F : Fr} {s : S}
theorem env_eq {env : Env} {sc : Scope} (h : env.scope = sc) : env = { env with scope := sc } := by cases env; subst h; rfl
section
variable {e a b c tg iter : Expr} {es rest : List Expr} {sts body : List Stmt} {P : Po} {pos p p' : Pos} {x : Str} {Φ : E → S → Prop} {Ψ : Bool → S → Prop}
variable {Pg : Program} {w : World} {K : PySem.W.Frag} {mg : Str → Option Value} {base : Heap} {N : List Str} {sc : Scope} {kk : Nat}
theorem jss_par' {i j : Nat} {y : Str} {px py pt pt2 : Pos} {kt k2 : Nat} (hX : XIs X Pg w K mg base N sc kk) (n : NmW X i x) (m : NmW X j y) (hij : i ≠ j) (lx : sc.names.lookup x = some .local) (ly : sc.names.lookup y = some .local)
    (h : JE X F a s fun e1 s1 => JE X F b s1 fun e2 s2 => JSs X F sts ((s2.set i e1).set j e2) P)
    (hw : swappedStores [.Tuple [.Name x px, .Name y py] kt pt] (.Tuple [a, b] k2 pt2) { X.env with scope := sc } = pure (some [x, y]))
    (hs : swapsWithSole [.Tuple [.Name x px, .Name y py] kt pt] (.Tuple [a, b] k2 pt2) pos.line X.env = pure false := by rfl) (ns : NoStar a := by intro _ _; rfl) (ns2 : NoStar b := by intro _ _; rfl) : JSs X F (.Assign [.Tuple [.Name x px, .Name y py] kt pt] (.Tuple [a, b] k2 pt2) pos :: sts) s P :=
  jss_par hX.bx n m hij (hX.loc lx) (hX.loc ly) (by rw [env_eq hX.eS]; exact hw) h hs ns ns2
/-! ### in a dict, in a text -/
def memK (k : Key) (ks : List Key) : Bool := ks.any fun k' => decide (k' = k)
theorem memK_iff {k : Key} {ks : List Key} : memK k ks = true ↔ k ∈ ks := by
  unfold memK
  rw [List.any_eq_true]
  constructor
  · rintro ⟨x, h, e⟩
    rw [← of_decide_eq_true e]; exact h
  · intro h
    exact ⟨k, h, decide_eq_true rfl⟩
theorem memK_cons {k k' : Key} {ks : List Key} : memK k (k' :: ks) = (decide (k' = k) || memK k ks) := rfl
theorem lk_mem {k : Key} : ∀ {ks : List Key} {vs : List V}, ks.length = vs.length → (valV (ks.zip vs) k).isSome = memK k ks
  | [], _, _ => by simp [valV, memK]
  | _ :: _, [], h => by simp at h
  | k' :: ks, v :: vs, h => by
    have ih := lk_mem (k := k) (ks := ks) (vs := vs) (by simpa using h)
    rw [memK_cons]
    by_cases e : k' = k
    · subst e
      simp [valV, List.zip_cons_cons, List.find?_cons]
    · have e2 : valV ((k' :: ks).zip (v :: vs)) k = valV (ks.zip vs) k := by simp [valV, List.zip_cons_cons, List.find?_cons, e]
      rw [e2, ih]
      simp [e]
theorem op_inD (hu : X.A.units + 1 < cLine) : OpR X (compareOp .In) (fun x y H Q => ∃ a o, y = .ref a ∧ DGet H a x o ∧ Q (.bl o.isSome) H) := by
  intro pins st σ H x y v u Q I rx ry h
  obtain ⟨a, o, rfl, g, q⟩ := h
  obtain rfl : u = Value.ref a := ry
  exact d_in hu I g rx fun s3 I3 => ⟨.bl o.isSome, H, I3, rfl, q⟩
theorem op_notInD (hu : X.A.units + 1 < cLine) : OpR X (compareOp .NotIn) (fun x y H Q => ∃ a o, y = .ref a ∧ DGet H a x o ∧ Q (.bl (!o.isSome)) H) := by
  intro pins st σ H x y v u Q I rx ry h
  obtain ⟨a, o, rfl, g, q⟩ := h
  obtain rfl : u = Value.ref a := ry
  exact d_notIn hu I g rx fun s3 I3 => ⟨.bl (!o.isSome), H, I3, rfl, q⟩
theorem jr_inD {B : Nat} {e1 e2 : E} {k : Key} {ks : List Key} {es : List E} (bx : Bx X B) (h : s.node e2 = some (.dct ks, es)) (hk : keyE e1 = some k) (q : Φ (.d (.bl (memK k ks))) s) : JR X F (compareOp .In) e1 e2 s Φ :=
  jr_of (op_inD bx.hu) fun as G H σ x y Q c v1 v2 kk => by
    obtain ⟨a, vs, rfl, ⟨n1, n2, od, n3⟩, ves⟩ := c.node v2 h
    obtain rfl := keyE_v hk v1
    exact ⟨a, _, rfl, .inl ⟨_, k, .inr ⟨od, n3⟩, rfl, rfl⟩, by rw [lk_mem n1]; exact kk _ as G H _ s c (Ext.refl _ _) (Rep.bl _) q⟩
theorem jr_ninD {B : Nat} {e1 e2 : E} {k : Key} {ks : List Key} {es : List E} (bx : Bx X B) (h : s.node e2 = some (.dct ks, es)) (hk : keyE e1 = some k) (q : Φ (.d (.bl (!memK k ks))) s) : JR X F (compareOp .NotIn) e1 e2 s Φ :=
  jr_of (op_notInD bx.hu) fun as G H σ x y Q c v1 v2 kk => by
    obtain ⟨a, vs, rfl, ⟨n1, n2, od, n3⟩, ves⟩ := c.node v2 h
    obtain rfl := keyE_v hk v1
    exact ⟨a, _, rfl, .inl ⟨_, k, .inr ⟨od, n3⟩, rfl, rfl⟩, by rw [lk_mem n1]; exact kk _ as G H _ s c (Ext.refl _ _) (Rep.bl _) q⟩
theorem jr_inS {cp : Nat} {z : Str} (q : Φ (.d (.bl (decide (cp ∈ z.cps.toList)))) s) : JR X F (compareOp .In) (.d (.str ⟨#[cp]⟩)) (.d (.str z)) s Φ :=
  jr_of op_in_sign fun as G H σ x y Q c v1 v2 kk => by
    cases v1
    cases v2
    exact ⟨cp, z, rfl, rfl, kk _ as G H _ s c (Ext.refl _ _) (Rep.bl _) q⟩
theorem jr_ninS {cp : Nat} {z : Str} (q : Φ (.d (.bl (!decide (cp ∈ z.cps.toList)))) s) : JR X F (compareOp .NotIn) (.d (.str ⟨#[cp]⟩)) (.d (.str z)) s Φ :=
  jr_of op_notIn_sign fun as G H σ x y Q c v1 v2 kk => by
    cases v1
    cases v2
    exact ⟨cp, z, rfl, rfl, kk _ as G H _ s c (Ext.refl _ _) (Rep.bl _) q⟩
theorem isBl_v {K : PySem.W.Frag} {G : Hp} {as : List Addr} {v : V} {e : E} {b : Bool} (h : VE K G as v e) : decide (v = .bl b) = isBl b e := by
  cases e with
  | r _ => obtain ⟨a, _, rfl⟩ := h; rfl
  | d x => cases h <;> simp [isBl]
theorem jr_isBl {e : E} {b : Bool} (q : Φ (.d (.bl (isBl b e))) s) : JR X F (compareOp .Is) e (.d (.bl b)) s Φ :=
  jr_of op_isBool fun as G H σ x y Q c v1 v2 k => by
    cases v2
    exact ⟨b, rfl, by rw [isBl_v v1]; exact k _ as G H _ s c (Ext.refl _ _) (Rep.bl _) q⟩
/-! ### unary minus -/
theorem ju_neg {i : Int} (q : Φ (.d (.int (-i))) s) : JU X F .USub (.d (.int i)) s Φ := fun as G H σ vs Q c ves k => by
  cases ves with
  | cons ve t =>
    cases t
    cases ve
    intro pins st σ' v I r
    exact un_neg pins st σ' H _ v Q I r ⟨i, rfl, k _ as G H _ s c (Ext.refl _ _) (Rep.int _) q⟩
/-! ### d[k] = v, d owned -/
def dpK (ks : List Key) (k : Key) : List Key := if memK k ks = true then ks else ks ++ [k]
def dpV {α : Type} (ks : List Key) (es : List α) (k : Key) (e : α) : List α := if memK k ks = true then (ks.zip es).map (fun q => if q.1 = k then e else q.2) else es ++ [e]
theorem dpK_nodup {ks : List Key} {k : Key} (h : ks.Nodup) : (dpK ks k).Nodup := by
  unfold dpK
  split
  · exact h
  · rename_i q
    rw [List.nodup_append]
    exact ⟨h, by simp, fun a ha b hb => by simp at hb; subst hb; exact fun z => q (memK_iff.mpr (z ▸ ha))⟩
theorem dpV_len {α : Type} {ks : List Key} {es : List α} {k : Key} {e : α} (h : ks.length = es.length) : (dpK ks k).length = (dpV ks es k e).length := by
  unfold dpK dpV
  split <;> simp [h]
theorem any_mem {k : Key} : ∀ {ks : List Key} {vs : List V}, ks.length = vs.length → ((ks.zip vs).any fun kv => decide (kv.1 = k)) = memK k ks
  | [], _, _ => by simp [memK]
  | _ :: _, [], h => by simp at h
  | k' :: ks, v :: vs, h => by
    rw [List.zip_cons_cons, List.any_cons, any_mem (by simpa using h), memK_cons]
theorem zip_map_put {k : Key} {v : V} : ∀ {ks : List Key} {vs : List V}, (ks.zip vs).map (fun kv => if kv.1 = k then (kv.1, v) else kv) = ks.zip ((ks.zip vs).map fun q => if q.1 = k then v else q.2)
  | [], _ => by simp
  | _ :: _, [] => by simp
  | k' :: ks, w :: vs => by
    rw [List.zip_cons_cons, List.map_cons, List.map_cons, List.zip_cons_cons, zip_map_put]
    by_cases e : k' = k
    · subst e; simp
    · simp [e]
theorem putK_zip {ks : List Key} {vs : List V} {k : Key} {v : V} (h : ks.length = vs.length) : putK (ks.zip vs) k v = (dpK ks k).zip (dpV ks vs k v) := by
  unfold putK dpK dpV
  rw [any_mem h]
  by_cases e : memK k ks = true
  · simp only [e, if_true]
    exact zip_map_put
  · rw [if_neg e, if_neg e, if_neg e, List.zip_append h]
    rfl
theorem ves_dpV {K : PySem.W.Frag} {G : Hp} {as : List Addr} {k : Key} {v : V} {e : E} (ve : VE K G as v e) {ks : List Key} {vs : List V} {es : List E} (h : VEs K G as vs es) : VEs K G as (dpV ks vs k v) (dpV ks es k e) := by
  unfold dpV
  split
  · rename_i hm
    clear hm
    induction h generalizing ks with
    | nil => simp; exact .nil
    | cons h t ih =>
      cases ks with
      | nil => exact .nil
      | cons k' ks =>
        rw [List.zip_cons_cons, List.zip_cons_cons, List.map_cons, List.map_cons]
        refine .cons ?_ ih
        by_cases q : k' = k
        · simp only [q, if_true]; exact ve
        · simp only [q, if_false]; exact h
  · exact h.snoc ve
theorem set_dictZ (hu : X.A.units + 1 < cLine) : PSet X (fun o i v H Q => ∃ (a : Addr) (od : Obj) (kvs : List (Key × V)) (k : Key), o = .ref a ∧ i = kV k ∧ H a = some (.frz od (.dK kvs)) ∧ (∀ o' u', X.H_0 a ≠ some (.frz o' u')) ∧ kvs.length < sizeLine ∧ ∀ od', Q (upd H a (.frz od' (.dK (putK kvs k v))))) := by
  intro pins st σ H o i v ov iv u Q I ro ri rv h
  obtain ⟨a, od, kvs, k, rfl, rfl, ha, hn, hz, q⟩ := h
  obtain rfl : ov = Value.ref a := ro
  have I1 := I.unlock ha hn
  refine d_setItem (H' := upd H a (.dK (putK kvs k v))) hu I1 (.inl ⟨kvs, k, upd_same, rfl, hz, by rw [upd_upd]⟩) ri rv fun s' I2 => ?_
  obtain ⟨od', I3⟩ := I2.lock (d := a) upd_same trivial
  rw [upd_upd] at I3
  exact ⟨_, I3, q od'⟩
theorem jg_setD {B : Nat} {o i : Expr} {v : E} {Φ : S → Prop} (bx : Bx X B) (hH : X.H_0 = F.H0) (h : JE X F o s fun eo s1 => JE X F i s1 fun ei s2 => ∃ k ks es kk, eo = .r k ∧ keyE ei = some kk ∧ nth s2.ce k = some (.nd (.dct ks) es) ∧ s2.ar ≤ k ∧ es.length < sizeLine ∧ Φ (s2.put k (.dct (dpK ks kk)) (dpV ks es kk v)))
    (ha : ∀ v, assign (.Subscript o i p) X.env v = (do
      let ov ← holding [v] (eval o X.env)
      let iv ← holding [v, ov] (eval i X.env)
      standAt p
      holding [v, ov, iv] (setItem ov iv v)
      release [v, ov, iv] []) := by intro _; rfl) : JG X F (.Subscript o i p) v s Φ :=
  fun as G H σ u Q c ve k => PG.sem (pg_sub (pe_sem X o) (pe_sem X i) (set_dictZ bx.hu) ha) (h as G H σ _ c fun v1 as1 G1 H1 e1 s1 c1 x1 ve1 h1 => h1 as1 G1 H1 σ _ c1 fun v2 as2 G2 H2 e2 s2 c2 x2 ve2 ⟨j, ks, es, kk, q1, q2, q3, q4, q5, q6⟩ => by
    subst q1
    obtain rfl := keyE_v q2 ve2
    obtain ⟨a, ha, rfl⟩ := x2.ve ve1
    rw [nth_eq] at q3
    obtain ⟨a', vs, g1, ⟨g2, g3, od, g4⟩, g5⟩ := c2.cells j _ _ q3
    rw [ha] at g1
    cases g1
    have hl := Paired.length g5
    have nA : a ∉ F.A0 := fun z => by
      obtain ⟨l, hl⟩ := List.getElem?_of_mem z
      have q := pre_get c2.pre hl
      obtain ⟨l1, e1⟩ := List.getElem?_eq_some_iff.mp q
      obtain ⟨l2, e2⟩ := List.getElem?_eq_some_iff.mp ha
      have := (List.getElem_inj c2.nd).mp (e1.trans e2.symm)
      have l3 := (List.getElem?_eq_some_iff.mp hl).1
      rw [c2.har] at l3
      omega
    have h0 : F.H0 a = none := (c2.fresh a (List.mem_of_getElem? ha)).resolve_left nA
    refine ⟨a, od, _, kk, rfl, rfl, g4, fun o' u' z => (by rw [hH, h0] at z; cases z), by rw [List.length_zip, g2, Nat.min_self, hl]; exact q5, fun od' => ?_⟩
    rw [putK_zip g2]
    exact k as2 G2 _ σ _ (c2.put (kd := .dct (dpK ks kk)) q3 ha ⟨dpV_len g2, dpK_nodup g3, od', upd_same⟩ (ves_dpV ((x1.trans x2).ve ve) g5)) (x1.trans x2) q6)
/-! ### sorted, sum, all -/
def rSortD : List V → Hp → VK → Prop := fun xs H Q => ∃ (a : Addr) (kvs : List (Key × V)) (ks : List Str), xs = [.ref a] ∧ Rd H a (.dK kvs) ∧ kvs.map (·.1) = ks.map Sum.inr ∧ ks.length < 64 ∧
    ∀ ys p, ys.Perm ks → sortedS ys = true → H p = none → Q (.ref p) (upd H p (.lst (ys.map V.str)))
theorem reps_strs {K : PySem.W.Frag} {G : Hp} : ∀ (ys : List Str), Reps K G (ys.map V.str) (ys.map D.str)
  | [] => .nil
  | y :: ys => .cons (.str y) (reps_strs ys)
theorem reps_ints {K : PySem.W.Frag} {G : Hp} : ∀ (ys : List Int), Reps K G (ys.map V.int) (ys.map D.int)
  | [] => .nil
  | y :: ys => .cons (.int y) (reps_ints ys)
/-- sorted of a dict's text keys: a new list -/
theorem je_sortedD {B : Nat} (bx : Bx X B) (g : GlB X "sorted") (h : JE X F a s fun e s1 => ∃ (ks : List Str) (es : List E), s1.node e = some (.dct (ks.map Sum.inr), es) ∧ ks.length < 64 ∧ ∀ ys, ys.Perm ks → sortedS ys = true → Φ (.d (.nd .lst (ys.map .str))) s1)
    (ns : NoStar a := by intro _ _; rfl) : JE X F (.Call (.Name "sorted" p) [a] [] pos) s Φ :=
  je_of (pe_callB (r := rSortD) (call_sortedD bx.calm) g.gl g.mg PyProof.Rows.boot_sorted (pa_cons (pe_sem X a) pa_nil (ns _ _)) (he := ns _ _)) fun as G H σ Q c k => h as G H σ _ c fun v as1 G1 H1 e1 s1 c1 x1 ve ⟨ks, es, h1, h2, h3⟩ => by
    obtain ⟨d, vs, rfl, ⟨n1, n2, od, n3⟩, ves⟩ := c1.node ve h1
    refine ⟨d, _, ks, rfl, .inr ⟨od, n3⟩, by rw [List.map_fst_zip (by omega)], h2, fun ys q hy hs hq => ?_⟩
    have sg : Same G1 (upd G1 q (.lst (ys.map V.str))) := same_new (c1.gnone hq)
    exact k _ as1 _ _ (.d (.nd .lst (ys.map .str))) s1 (c1.addG hq) (x1.trans ⟨List.prefix_refl _, sg⟩) (.nd (SqL.of upd_same) (reps_strs ys)) (h3 ys hy hs)
/-- sorted of a list of texts -/
theorem je_sortedS (g : GlB X "sorted") (h : JE X F a s fun e s1 => ∃ (ks : List Str), s1.node e = some (.lst, (ks.map D.str).map .d) ∧ ks.length < 64 ∧ ∀ ys, ys.Perm ks → sortedS ys = true → Φ (.d (.nd .lst (ys.map .str))) s1)
    (ns : NoStar a := by intro _ _; rfl) : JE X F (.Call (.Name "sorted" p) [a] [] pos) s Φ :=
  je_of (pe_callB (r := rSortedS X.K) cr_sortedS g.gl g.mg PyProof.Rows.boot_sorted (pa_cons (pe_sem X a) pa_nil (ns _ _)) (he := ns _ _)) fun as G H σ Q c k => h as G H σ _ c fun v as1 G1 H1 e1 s1 c1 x1 ve ⟨ks, h1, h2, h3⟩ => by
    obtain ⟨d, vs, rfl, n, ves⟩ := c1.node ve h1
    have hv : vs = ks.map V.str := by
      have := ves.reps
      clear h1 h2 h3 n ves
      induction ks generalizing vs with
      | nil => cases this; rfl
      | cons y ks ih => cases this with
        | cons a b => cases a; rw [ih _ b]; rfl
    subst hv
    refine ⟨d, ks, rfl, n, h2, fun ys q hy hs hq => ?_⟩
    have sg : Same G1 (upd G1 q (.lst (ys.map V.str))) := same_new (c1.gnone hq)
    exact k _ as1 _ _ (.d (.nd .lst (ys.map .str))) s1 (c1.addG hq) (x1.trans ⟨List.prefix_refl _, sg⟩) (.nd (SqL.of upd_same) (reps_strs ys)) (h3 ys hy hs)
theorem vs_ints {K : PySem.W.Frag} {G : Hp} : ∀ {ns : List Int} {vs : List V}, Reps K G vs (ns.map D.int) → vs = ns.map V.int
  | [], _, .nil => rfl
  | n :: ns, _, .cons a b => by cases a; rw [vs_ints b]; rfl
theorem vs_bls {K : PySem.W.Frag} {G : Hp} : ∀ {ns : List Bool} {vs : List V}, Reps K G vs (ns.map D.bl) → vs = ns.map V.bl
  | [], _, .nil => rfl
  | n :: ns, _, .cons a b => by cases a; rw [vs_bls b]; rfl
theorem je_sum {B : Nat} (bx : Bx X B) (g : GlB X "sum") (h : JE X F a s fun e s1 => ∃ ns : List Int, s1.node e = some (.lst, (ns.map D.int).map .d) ∧ Φ (.d (.int ns.sum)) s1) (ns : NoStar a := by intro _ _; rfl) : JE X F (.Call (.Name "sum" p) [a] [] pos) s Φ :=
  je_of (pe_callB (cr_sum bx.calm) g.gl g.mg PyProof.Rows.boot_sum (pa_cons (pe_sem X a) pa_nil (ns _ _)) (he := ns _ _)) fun as G H σ Q c k => h as G H σ _ c fun v as1 G1 H1 e1 s1 c1 x1 ve ⟨ms, h1, h2⟩ => by
    obtain ⟨d, vs, rfl, n, ves⟩ := c1.node ve h1
    obtain rfl := vs_ints ves.reps
    exact ⟨d, ms, rfl, n, k _ as1 G1 H1 _ s1 c1 x1 (Rep.int _) h2⟩
theorem je_all {B : Nat} (bx : Bx X B) (g : GlB X "all") (h : JE X F a s fun e s1 => ∃ bs : List Bool, s1.node e = some (.lst, (bs.map D.bl).map .d) ∧ Φ (.d (.bl (bs.all id))) s1) (ns : NoStar a := by intro _ _; rfl) : JE X F (.Call (.Name "all" p) [a] [] pos) s Φ :=
  je_of (pe_callB (cr_all bx.calm) g.gl g.mg PyProof.Rows.boot_all (pa_cons (pe_sem X a) pa_nil (ns _ _)) (he := ns _ _)) fun as G H σ Q c k => h as G H σ _ c fun v as1 G1 H1 e1 s1 c1 x1 ve ⟨ms, h1, h2⟩ => by
    obtain ⟨d, vs, rfl, n, ves⟩ := c1.node ve h1
    obtain rfl := vs_bls ves.reps
    exact ⟨d, ms, rfl, n, k _ as1 G1 H1 _ s1 c1 x1 (Rep.bl _) h2⟩
/-- tuple(a list): a new tuple -/
theorem jn_tupleL {Θ : Kd → List E → S → Prop} (g : GlB X "tuple") (h : JE X F a s fun e s1 => ∃ es, s1.node e = some (.lst, es) ∧ Θ .tup es s1) (ns : NoStar a := by intro _ _; rfl) : JN X F (.Call (.Name "tuple" p) [a] [] pos) s Θ := fun as G H σ Q c k =>
  PE.sem (pe_callTy call_tuple_of g.gl g.mg PyProof.Rows.boot_tuple (pa_cons (pe_sem X a) pa_nil (ns _ _)) (he := ns _ _)) (h as G H σ _ c fun v as1 G1 H1 e1 s1 c1 x1 ve ⟨es, h1, h2⟩ => by
    obtain ⟨d, vs, rfl, n, ves⟩ := c1.node ve h1
    exact ⟨d, vs, rfl, .inl ⟨n, fun q hq => k q vs as1 G1 H1 .tup es s1 c1 x1 hq (fun ks z => by cases z) ves h2⟩⟩)
theorem jn_listS {Θ : Kd → List E → S → Prop} (g : GlB X "list") (h : JE X F a s fun e s1 => ∃ kd es, s1.node e = some (kd, es) ∧ (kd = .lst ∨ kd = .tup) ∧ Θ .lst es s1) (ns : NoStar a := by intro _ _; rfl) : JN X F (.Call (.Name "list" p) [a] [] pos) s Θ := fun as G H σ Q c k =>
  PE.sem (pe_callTy call_list_of g.gl g.mg PyProof.Rows.boot_list (pa_cons (pe_sem X a) pa_nil (ns _ _)) (he := ns _ _)) (h as G H σ _ c fun v as1 G1 H1 e1 s1 c1 x1 ve ⟨kd, es, h1, hk, h2⟩ => by
    obtain ⟨d, vs, rfl, n, ves⟩ := c1.node ve h1
    refine ⟨d, vs, rfl, ?_, fun q hq => k q vs as1 G1 H1 .lst es s1 c1 x1 hq (fun ks z => by cases z) ves h2⟩
    rcases hk with rfl | rfl
    · exact .inl n
    · exact .inr n)
/-! ### slices -/
def JO (X : Cx) (F : Fr) (o : Option Expr) (s : S) (Φ : Option Int → S → Prop) : Prop := match o with
  | none => Φ none s
  | some e => JE X F e s fun e1 s1 => ∃ i, e1 = .d (.int i) ∧ Φ (some i) s1
def tO (X : Cx) (o : Option Expr) : TO := match o with
  | none => tNoPart
  | some e => tPart (semE X e)
theorem po_sem (X : Cx) : ∀ o, PO X o (tO X o)
  | none => po_none
  | some e => po_some (pe_sem X e)
theorem jo_run {o : Option Expr} {Φ : Option Int → S → Prop} {as : List Addr} {G H : Hp} {σ : L2.St} {Q : Option Int → Hp → Prop} (h : JO X F o s Φ) (c : Cz X F as G H σ s) (k : ∀ i as' G' H' s', Cz X F as' G' H' σ s' → Ext as as' G G' → Φ i s' → Q i H') : tO X o σ H Q := by
  match o, h with
  | none, h => exact k none as G H s c (Ext.refl _ _) h
  | some e, h =>
    refine h as G H σ _ c fun v as1 G1 H1 e1 s1 c1 x1 ve ⟨i, q1, q2⟩ => ?_
    subst q1
    cases ve
    exact ⟨i, rfl, k (some i) as1 G1 H1 s1 c1 x1 q2⟩
theorem je_sliceS {lo hi : Option Expr} {p2 : Pos} (h : JE X F a s fun e s1 => JO X F lo s1 fun l s2 => JO X F hi s2 fun u s3 => ∃ z, e = .d (.str z) ∧ z.length ≤ sizeLine ∧ Φ (.d (.str (cutS z l u))) s3) : JE X F (.Subscript a (.Slice lo hi none p2) pos) s Φ :=
  je_of (pe_slice sl_str (pe_sem X a) (po_sem X lo) (po_sem X hi)) fun as G H σ Q c k => h as G H σ _ c fun v as1 G1 H1 e1 s1 c1 x1 ve h1 => jo_run h1 c1 fun l as2 G2 H2 s2 c2 x2 h2 => jo_run h2 c2 fun u as3 G3 H3 s3 c3 x3 ⟨z, q1, q2, q3⟩ => by
    subst q1
    cases ve
    exact ⟨z, rfl, q2, k _ as3 G3 H3 _ s3 c3 ((x1.trans x2).trans x3) (Rep.str _) q3⟩
end
end DL
namespace DL
open PySem PySem.Spec PyProof.Rows L2
variable {X : Cx} {F : Fr} {s : S}
section
variable {as as1 as' : List Addr} {G G1 G' H H1 H' : Hp} {σ : L2.St}
/-- what stands and is no owned cell is frozen -/
theorem Cz.frzG (c : Cz X F as G H σ s) {b : Addr} {o : HO} (ho : H b = some o) (gn : G b = none) (hb : b ∉ as) (h0 : F.H0 b = none) : Cz X F as (upd G b o) H σ s := by
  have sg : Same G (upd G b o) := same_new gn
  refine ⟨fun d u q => ?_, c.base.trans sg, fun d q1 q2 => ?_, c.frame, c.len, c.pre, c.nd, fun k a kd es q1 q2 => ?_, c.fresh, c.there, fun k kd es q => ?_, fun i e q => ?_, c.slen, c.har⟩
  · by_cases hd : d = b
    · subst hd; rw [upd_same] at q; rw [ho, ← q]
    · rw [upd_ne hd] at q; exact c.sub d u q
  · have hd : d ≠ b := fun z => by rw [z] at q2; exact q2 h0
    rw [upd_ne hd]; exact c.new d q1 q2
  · have hd : a ≠ b := fun z => hb (by rw [← z]; exact List.mem_of_getElem? q1)
    rw [upd_ne hd]; exact c.own k a kd es q1 q2
  · obtain ⟨a, vs, w1, w2, w3⟩ := c.cells k kd es q
    exact ⟨a, vs, w1, w2, w3.mono (List.prefix_refl _) sg⟩
  · obtain ⟨v, w1, w2⟩ := c.slots i e q
    exact ⟨v, w1, w2.mono (List.prefix_refl _) sg⟩
theorem VE.lt {K : PySem.W.Frag} {v : V} : ∀ {e : E}, VE K G as v e → e.lt as.length = true
  | .d _, _ => rfl
  | .r k, ⟨a, h, _⟩ => by
    have := (List.getElem?_eq_some_iff.mp h).1
    simp [E.lt, this]
theorem Cz.popFrz (c1 : Cz X F as1 G1 H1 σ s) {kd : Kd} {ds : List D} (c' : Cz X F as' G' H' σ (s.push kd (ds.map .d))) (x : Ext as1 as' G1 G') :
    ∃ G2, Cz X F as1 G2 H' σ s ∧ Same G' G2 ∧ ∀ q, as'[s.ce.length]? = some q → Rep X.K G2 (.ref q) (.nd kd ds) := by
  have w : Wk (s.push kd (ds.map .d)) s := ⟨fun i e h => h, rfl, ⟨_, rfl⟩, rfl, by rw [← c1.har, ← c1.len]; exact c1.pre.length_le⟩
  have lt1 : ∀ (i : Nat) (e : E), s.sl[i]? = some (some e) → e.lt s.ce.length = true := fun i e h => by
    obtain ⟨v, _, q⟩ := c1.slots i e h
    rw [← c1.len]; exact q.lt
  have lt2 : ∀ (k : Nat) (kd : Kd) (es : List E), s.ce[k]? = some (.nd kd es) → ∀ e ∈ es, E.lt s.ce.length e = true := fun k kd es h e he => by
    obtain ⟨a, vs, _, _, q⟩ := c1.cells k kd es h
    obtain ⟨j, hj⟩ := List.getElem?_of_mem he
    obtain ⟨v, _, q2⟩ := q.get' hj
    rw [← c1.len]; exact q2.lt
  have c2 := c'.weak w lt1 lt2
  have ea : as'.take s.ce.length = as1 := by
    obtain ⟨t, rfl⟩ := x.pre
    rw [← c1.len, List.take_left]
  rw [ea] at c2
  obtain ⟨q, hq⟩ : ∃ q, as'[s.ce.length]? = some q := by
    have : s.ce.length < as'.length := by
      rw [c'.len]
      show _ < (s.ce ++ [Cell.nd kd (ds.map .d)]).length
      simp
    exact ⟨_, List.getElem?_eq_getElem this⟩
  have hce : (s.push kd (ds.map .d)).ce[s.ce.length]? = some (.nd kd (ds.map .d)) := by
    show (s.ce ++ [Cell.nd kd (ds.map .d)])[s.ce.length]? = _
    rw [List.getElem?_append_right (Nat.le_refl _)]; simp
  obtain ⟨q', vs, g1, g2, g3⟩ := c'.cells _ _ _ hce
  rw [hq] at g1
  cases g1
  obtain ⟨o, ho⟩ := g2.some
  have gn : G' q = none := c'.own _ _ _ _ hq hce
  have nin : q ∉ as1 := fun z => by
    obtain ⟨j, hj⟩ := List.getElem?_of_mem z
    have h1 := pre_get x.pre hj
    obtain ⟨l1, e1⟩ := List.getElem?_eq_some_iff.mp h1
    obtain ⟨l2, e2⟩ := List.getElem?_eq_some_iff.mp hq
    have e3 := (List.getElem_inj c'.nd).mp (e1.trans e2.symm)
    have l3 := (List.getElem?_eq_some_iff.mp hj).1
    rw [c1.len] at l3
    omega
  have h0 : F.H0 q = none := (c'.fresh q (List.mem_of_getElem? hq)).resolve_left fun z => nin (c1.pre.subset z)
  refine ⟨upd G' q o, c2.frzG ho gn nin h0, same_new gn, fun q2 hq2 => ?_⟩
  rw [hq] at hq2
  cases hq2
  have cg : CellAt (upd G' q o) q vs kd := g2.keep fun u z => by rw [upd_same, ← ho, z]
  exact .nd cg.node (g3.reps.mono (same_new gn))
end
section
variable {e a b c elt iter kx vx : Expr} {es ifs : List Expr} {scope : Scope} {own : List (Str × Nat)} {pos p : Pos} {x : Str} {j B : Nat} {Φ : E → S → Prop}
/-- what an expression has made last, frozen -/
theorem je_pop {kd : Kd} (h : JE X F e s fun e1 s1 => ∃ ds, e1 = .r s.ce.length ∧ s1 = s.push kd (ds.map .d) ∧ Φ (.d (.nd kd ds)) s) : JE X F e s Φ := fun as G H σ Q c k =>
  h as G H σ Q c fun v as1 G1 H1 e1 s1 c1 x1 ve ⟨ds, q1, q2, q3⟩ => by
    subst q1 q2
    obtain ⟨G2, c2, sg, rep⟩ := c.popFrz c1 x1
    obtain ⟨q, hq, rfl⟩ := ve
    exact k _ as G2 H1 _ s c2 ⟨List.prefix_refl _, x1.sub.trans sg⟩ (rep q hq) q3
/-- a call whose new answer is frozen at once -/
def RtΦd (Φ : E → S → Prop) (s : S) : Rt → Prop
  | .dat x => Φ (.d x) s
  | .new kd ds => Φ (.d (.nd kd ds)) s
theorem rtΦd_dat {d : D} (h : Φ (.d d) s) : RtΦd Φ s (.dat d) := h
theorem rtΦd_new {kd : Kd} {ds : List D} (h : Φ (.d (.nd kd ds)) s) : RtΦd Φ s (.new kd ds) := h
theorem frz_new {as1 : List Addr} {G' H' H1 : Hp} {σ : L2.St} {s1 : S} {v : V} {kd : Kd} {ds' : List D} (c2 : Cz X F as1 G' H' σ s1) (hn : ∀ b, H1 b = none → b ∉ as1 ∧ F.H0 b = none) (q5 : RtAt X.K G' H' H1 v (.new kd ds')) : ∃ G2, Cz X F as1 G2 H' σ s1 ∧ Same G' G2 ∧ Rep X.K G2 v (.nd kd ds') := by
  obtain ⟨b, ws, rfl, w1, w2, w3, w4⟩ := q5
  obtain ⟨o, ho⟩ := w3.some
  obtain ⟨n1, n2⟩ := hn b w1
  have cg : CellAt (upd G' b o) b ws kd := w3.keep fun u z => by rw [upd_same, ← ho, z]
  exact ⟨upd G' b o, c2.frzG ho w2 n1 n2, same_new w2, .nd cg.node (w4.mono (same_new w2))⟩
theorem je_callPd {R : RP} {k : Nat} (cb : CbP X x k R) (bx : Bx X B) (hB : k ≤ B)
    (h : JA X F (a :: es) s fun vs s1 => ∃ ds, dsOf vs = some ds ∧ R ds (RtΦd Φ s1)) (hdb : (x == ("__debug__" : Str)) = false := by decide) (he : starEach (a :: es) X.env = (false, eval a X.env) :: starEach es X.env := by rfl)
    (hpl : (backTo pos (starEach es X.env)).any (·.1) = false := by rfl) : JE X F (.Call (.Name x p) (a :: es) [] pos) s Φ := by
  obtain ⟨f, fd, ps, h1, h2, h3, h4⟩ := cb.ex
  refine je_of (pe_call h4 (bx.room.mono hB) cb.gl h1 h2 h3 .nil pass0 (pa_sem X _) hdb he hpl) fun as G H σ Q c kk => h as G H σ _ c fun vs as1 G1 H1 es1 s1 c1 x1 ves ⟨ds, e1, hR⟩ => ?_
  rw [List.append_nil]
  rw [dsOf_eq e1] at ves
  refine ⟨G1, ds, c1.sub, ves.reps, cb.mono ds _ _ (fun r hr v G' H' q1 q2 q3 q4 q5 => ?_) hR⟩
  have c2 := c1.call q1 q2 q3 q4
  have x2 : Ext as1 as1 G1 G' := ⟨List.prefix_refl _, q2⟩
  cases r with
  | dat y => exact kk v as1 G' H' (.d y) s1 c2 (x1.trans x2) q5 hr
  | new kd ds' =>
    obtain ⟨G2, c3, sg, rep⟩ := frz_new c2 (fun b hb => ⟨c1.notin hb, c1.h0none hb⟩) q5
    exact kk v as1 G2 H' _ s1 c3 (x1.trans ⟨List.prefix_refl _, q2.trans sg⟩) rep hr
/-! ### pure comprehensions -/
/-- the state in the block -/
def S.blk (s : S) (vs : List Nat) (acc : List E) (j : Nat) (v : E) : S := ((s.wipe vs).push .lst acc).set j v
theorem set_wipe {s : S} {vs : List Nat} {j : Nat} {v : E} (hj : j ∈ vs) : (s.set j v).wipe vs = s.wipe vs := by
  have h : wipeN (setN s.sl j (some v)) vs = wipeN s.sl vs := by
    apply List.ext_getElem?
    intro i
    by_cases hi : i ∈ vs
    · have key : ∀ {l : List (Option E)} {vs : List Nat}, i ∈ vs → (wipeN l vs)[i]? = if i < l.length then some none else none := by
        intro l vs h
        induction vs with
        | nil => cases h
        | cons v vs ih =>
          unfold wipeN
          rw [setN_eq]
          by_cases hv : v = i
          · subst hv
            by_cases hl : v < l.length
            · rw [List.getElem?_set_self (by rw [wipeN_len]; exact hl), if_pos hl]
            · rw [List.getElem?_eq_none (by rw [List.length_set, wipeN_len]; omega), if_neg hl]
          · rw [List.getElem?_set_ne hv]
            exact ih ((List.mem_cons.mp h).resolve_left fun z => hv z.symm)
      rw [key hi, key hi, setN_eq, List.length_set]
    · have key : ∀ {l : List (Option E)} {vs : List Nat}, i ∉ vs → (wipeN l vs)[i]? = l[i]? := by
        intro l vs h
        induction vs with
        | nil => rfl
        | cons v vs ih =>
          unfold wipeN
          rw [setN_eq, List.getElem?_set_ne (fun z => h (by rw [z]; exact List.mem_cons_self)), ih fun z => h (List.mem_cons_of_mem _ z)]
      rw [key hi, key hi, setN_eq, List.getElem?_set_ne (fun z => hi (by rw [← z]; exact hj))]
  show (⟨wipeN (setN s.sl j (some v)) vs, s.ce, s.ar⟩ : S) = ⟨wipeN s.sl vs, s.ce, s.ar⟩
  rw [h]
theorem wipe_wipe {s : S} {vs : List Nat} : (s.wipe vs).wipe vs = s.wipe vs := by
  have h : wipeN (wipeN s.sl vs) vs = wipeN s.sl vs := by
    apply List.ext_getElem?
    intro i
    by_cases hi : i ∈ vs
    · have key : ∀ {l : List (Option E)} {vs : List Nat}, i ∈ vs → (wipeN l vs)[i]? = if i < l.length then some none else none := by
        intro l vs h
        induction vs with
        | nil => cases h
        | cons v vs ih =>
          unfold wipeN
          rw [setN_eq]
          by_cases hv : v = i
          · subst hv
            by_cases hl : v < l.length
            · rw [List.getElem?_set_self (by rw [wipeN_len]; exact hl), if_pos hl]
            · rw [List.getElem?_eq_none (by rw [List.length_set, wipeN_len]; omega), if_neg hl]
          · rw [List.getElem?_set_ne hv]
            exact ih ((List.mem_cons.mp h).resolve_left fun z => hv z.symm)
      rw [key hi, key hi, wipeN_len]
    · have key : ∀ {l : List (Option E)} {vs : List Nat}, i ∉ vs → (wipeN l vs)[i]? = l[i]? := by
        intro l vs h
        induction vs with
        | nil => rfl
        | cons v vs ih =>
          unfold wipeN
          rw [setN_eq, List.getElem?_set_ne (fun z => h (by rw [z]; exact List.mem_cons_self)), ih fun z => h (List.mem_cons_of_mem _ z)]
      rw [key hi]
  show (⟨wipeN (wipeN s.sl vs) vs, s.ce, s.ar⟩ : S) = ⟨wipeN s.sl vs, s.ce, s.ar⟩
  rw [h]
theorem lc_pure (hj : j ∈ own.map (·.2)) {n : Nat} {it : Nat → E → Prop} {s1 : S} {f : Nat → D} (hn : n ≤ 16000000)
    (ht : ∀ i v acc, i < n → it i v → ∀ Y, IsBlk X scope Y → JE Y F elt (s1.blk (own.map (·.2)) acc j v) fun y s3 => y = .d (f i) ∧ s3 = s1.blk (own.map (·.2)) acc j v) :
    let In : Nat → List E → S → Prop := fun i acc s' => acc = ((List.range i).map f).map .d ∧ s' = (s1.wipe (own.map (·.2))).push .lst acc
    In 0 [] ((s1.wipe (own.map (·.2))).push .lst []) ∧
      (∀ i v acc s', i < n → it i v → In i acc s' → nth s'.ce s1.ce.length = some (.nd .lst acc) ∧ ∀ Y, IsBlk X scope Y → JTs Y F ([] : List Expr) (s'.set j v) fun b s2 =>
        if b = true then ∀ Y2, IsBlk X scope Y2 → JE Y2 F elt s2 fun y s3 => nth s3.ce s1.ce.length = some (.nd .lst acc) ∧ acc.length < sizeLine ∧ In (i + 1) (acc ++ [y]) ((s3.put s1.ce.length .lst (acc ++ [y])).wipe (own.map (·.2)))
        else In (i + 1) acc (s2.wipe (own.map (·.2)))) := by
  intro In
  refine ⟨⟨rfl, rfl⟩, ?_⟩
  rintro i v acc s' hi hv ⟨rfl, rfl⟩
  have hce : ∀ (t : S) (l : List E), (t.push .lst l).ce = t.ce ++ [Cell.nd .lst l] := fun _ _ => rfl
  have hnth : nth ((s1.wipe (own.map (·.2))).push .lst (((List.range i).map f).map .d)).ce s1.ce.length = some (.nd .lst (((List.range i).map f).map .d)) := by
    rw [nth_eq, hce]
    show (s1.ce ++ [_])[s1.ce.length]? = _
    rw [List.getElem?_append_right (Nat.le_refl _)]
    simp
  refine ⟨hnth, fun Y hY => ?_⟩
  dsimp only [JTs]
  refine L2.iteT ?_
  refine fun Y2 hY2 => (ht i v _ hi hv Y2 hY2).mono fun y s3 ⟨e1, e2⟩ => ?_
  subst e1 e2
  refine ⟨hnth, by simp; rw [sizeLine_eq]; omega, ?_, ?_⟩
  · rw [List.range_succ]; simp
  · have hput : (s1.blk (own.map (·.2)) (((List.range i).map f).map .d) j v).put s1.ce.length .lst ((((List.range i).map f).map .d) ++ [.d (f i)]) = ((s1.wipe (own.map (·.2))).push .lst ((((List.range i).map f).map .d) ++ [.d (f i)])).set j v := by
      show (⟨_, setN (s1.ce ++ [Cell.nd .lst _]) s1.ce.length _, _⟩ : S) = ⟨_, s1.ce ++ [_], _⟩
      rw [setN_eq, List.set_append_right _ _ (Nat.le_refl _)]
      simp
      exact ⟨rfl, rfl⟩
    rw [hput, set_wipe hj]
    show (⟨wipeN (wipeN s1.sl _) _, _, _⟩ : S) = ⟨wipeN s1.sl _, _, _⟩
    have := congrArg S.sl (wipe_wipe (s := s1) (vs := own.map (·.2)))
    have this : wipeN (wipeN s1.sl (own.map (·.2))) (own.map (·.2)) = wipeN s1.sl (own.map (·.2)) := this
    rw [this]
    rfl
/-- [elt for x in iter], the elements pure: the list, frozen -/
theorem je_lcP (bx : Bx X B) (ok : BlkOk X.N X.env.scope scope own) (hj : j ∈ own.map (·.2)) (hn : ∀ Y, IsBlk X scope Y → NmW Y j x)
    (h : JI X F (.Name x p) iter s fun n it s1 => s1 = s ∧ n ≤ 16000000 ∧ ∃ f : Nat → D, (∀ i v acc, i < n → it i v → ∀ Y, IsBlk X scope Y → JE Y F elt (s.blk (own.map (·.2)) acc j v) fun y s3 => y = .d (f i) ∧ s3 = s.blk (own.map (·.2)) acc j v) ∧ Φ (.d (.nd .lst ((List.range n).map f))) s)
    (hs : ∀ x, foldedSetIterable iter X.env x = pure x := by intro _; rfl) : JE X F (.ListComp elt [⟨.Name x p, iter, [], 0⟩] scope pos) s Φ := by
  refine je_pop (kd := .lst) (je_lc bx ok hj hn (fun as G H σ R c k => h as G H σ R c fun J as1 G1 H1 s1 n it c1 x1 okJ ⟨q1, q2, f, q3, q4⟩ => ?_) hs)
  subst q1
  refine k J as1 G1 H1 s1 n it c1 x1 okJ ⟨_, (lc_pure hj q2 q3).1, (lc_pure hj q2 q3).2, ?_⟩
  rintro acc s' ⟨rfl, rfl⟩
  exact ⟨_, rfl, rfl, q4⟩
end
end DL
namespace DL
open PySem PySem.Spec PyProof.Rows L2
variable {X : Cx} {F : Fr} {s : S}
/-! ### a frame within a frame -/
section
variable {as as' : List Addr} {G G' H H' : Hp} {σ σ' : L2.St}
def S.in (s : S) : S := ⟨s.sl, s.ce, s.ce.length⟩
theorem Cz.enter (c : Cz X F as G H σ s) : Cz X ⟨G, H, as⟩ as G H σ s.in :=
  ⟨c.sub, Same.refl _, fun b h _ => h, fun b o h _ => h, c.len, List.prefix_refl _, c.nd, c.own, fun a h => .inl h, c.there, c.cells, c.slots, c.slen, c.len⟩
theorem Cz.leave {s' : S} (c : Cz X F as G H σ s) (c' : Cz X ⟨G, H, as⟩ as' G' H' σ' s') : Cz X F as' G' H' σ' ⟨s'.sl, s'.ce, s.ar⟩ := by
  refine ⟨c'.sub, c.base.trans c'.base, fun b h1 h2 => ?_, fun b o h1 h2 => ?_, c'.len, c.pre.trans c'.pre, c'.nd, c'.own, fun a ha => ?_, c'.there, c'.cells, c'.slots, c'.slen, c.har⟩
  · refine c'.new b (c.new b h1 h2) fun z => ?_
    by_cases hA : b ∈ F.A0
    · exact c.there b (c.pre.subset hA) z
    · cases q : F.H0 b with
      | none => exact h2 q
      | some o => have := c.frame b o q hA; rw [show H b = none from z] at this; cases this
  · refine c'.frame b o (c.frame b o h1 h2) fun z => ?_
    rcases c.fresh b z with q | q
    · exact h2 q
    · rw [q] at h1; cases h1
  · rcases c'.fresh a ha with z | z
    · exact c.fresh a z
    · exact .inr (c.h0none z)
end
/-! ### a dict comprehension, pure -/
section
variable {elt iter kx vx : Expr} {scope : Scope} {own : List (Str × Nat)} {pos p : Pos} {x : Str} {j B : Nat} {Φ : E → S → Prop}
def dcF (kf : Nat → Key) (f : Nat → D) : Nat → List Key × List D
  | 0 => ([], [])
  | n + 1 => (dpK (dcF kf f n).1 (kf n), dpV (dcF kf f n).1 (dcF kf f n).2 (kf n) (f n))
theorem dcF_ok (kf : Nat → Key) (f : Nat → D) : ∀ n, (dcF kf f n).1.length = (dcF kf f n).2.length ∧ (dcF kf f n).1.Nodup ∧ (dcF kf f n).1.length ≤ n
  | 0 => ⟨rfl, List.nodup_nil, Nat.le_refl _⟩
  | n + 1 => by
    obtain ⟨h1, h2, h3⟩ := dcF_ok kf f n
    refine ⟨dpV_len h1, dpK_nodup h2, ?_⟩
    show (dpK (dcF kf f n).1 (kf n)).length ≤ n + 1
    unfold dpK
    split
    · omega
    · simp; omega
theorem dcF_keys (kf : Nat → Key) (f : Nat → D) : ∀ n, ∀ k ∈ (dcF kf f n).1, ∃ i, i < n ∧ k = kf i
  | 0, k, h => by cases h
  | n + 1, k, h => by
    have h : k ∈ dpK (dcF kf f n).1 (kf n) := h
    unfold dpK at h
    split at h
    · obtain ⟨i, h1, h2⟩ := dcF_keys kf f n k h
      exact ⟨i, by omega, h2⟩
    · rcases List.mem_append.mp h with h | h
      · obtain ⟨i, h1, h2⟩ := dcF_keys kf f n k h
        exact ⟨i, by omega, h2⟩
      · exact ⟨n, by omega, by simpa using h⟩
/-- the keys all different -/
theorem dcF_inj {kf : Nat → Key} {f : Nat → D} : ∀ {n : Nat}, (∀ i j, i < j → j < n → kf i ≠ kf j) → dcF kf f n = ((List.range n).map kf, (List.range n).map f)
  | 0, _ => rfl
  | n + 1, h => by
    have ih := dcF_inj (f := f) (n := n) fun i j h1 h2 => h i j h1 (by omega)
    have hm : ¬ memK (kf n) (dcF kf f n).1 = true := fun z => by
      obtain ⟨i, h1, h2⟩ := dcF_keys kf f n _ (memK_iff.mp z)
      exact h i n h1 (by omega) h2.symm
    show (dpK _ _, dpV _ _ _ _) = _
    unfold dpK dpV
    rw [if_neg hm, if_neg hm, ih, List.range_succ, List.map_append, List.map_append]
    rfl
/-- what the block asks -/
def Pure1 (X : Cx) (scope : Scope) (e : Expr) (s : S) (d : D) : Prop := ∀ Y F, IsBlk X scope Y → JE Y F e s fun y s3 => y = .d d ∧ s3 = s
def S.dblk (s : S) (vs : List Nat) (j : Nat) (v : E) : S := ((s.wipe vs).set j v).in
def DcI (X : Cx) (F : Fr) (tg iter kx vx : Expr) (scope : Scope) (vs : List Nat) (j : Nat) (s : S) (Φ : List Key → List D → Prop) : Prop :=
  JI X F tg iter s fun n it s1 => s1 = s ∧ n ≤ 16000000 ∧ ∃ (kf : Nat → Key) (f : Nat → D), (∀ i v, i < n → it i v → Pure1 X scope kx (s.dblk vs j v) (kD (kf i)) ∧ Pure1 X scope vx (s.dblk vs j v) (f i)) ∧ Φ (dcF kf f n).1 (dcF kf f n).2
theorem rep_kV {K : PySem.W.Frag} {G : Hp} {v : V} : ∀ {k : Key}, Rep K G v (kD k) → v = kV k
  | .inl i, h => by cases h; rfl
  | .inr x, h => by cases h; rfl
theorem dpV_map {α β : Type} (g : α → β) {ks : List Key} {es : List α} {k : Key} {e : α} : dpV ks (es.map g) k (g e) = (dpV ks es k e).map g := by
  unfold dpV
  split
  · rename_i h
    clear h
    induction ks generalizing es with
    | nil => rfl
    | cons k' ks ih =>
      cases es with
      | nil => rfl
      | cons a es =>
        rw [List.map_cons, List.zip_cons_cons, List.zip_cons_cons, List.map_cons, List.map_cons, List.map_cons, ih]
        by_cases q : k' = k
        · simp only [q, if_true]
        · simp only [q, if_false]
  · rw [List.map_append]; rfl
theorem reps_dpV {K : PySem.W.Frag} {G : Hp} {k : Key} {v : V} {d : D} (r : Rep K G v d) {ks : List Key} {vs : List V} {ds : List D} (h : Reps K G vs ds) : Reps K G (dpV ks vs k v) (dpV ks ds k d) := by
  refine VEs.reps (as := []) ?_
  rw [← dpV_map]
  exact ves_dpV (as := []) (e := .d d) r (VEs.ofReps h)
theorem dc_read {Φ : List Key → List D → Prop} (hj : j ∈ own.map (·.2)) (h : DcI X F (.Name x p) iter kx vx scope (own.map (·.2)) j s Φ) :
    ∀ as G H σ (Q : VK), Cz X F as G H σ s → (∀ D as' G' H' vs ks ds, Cz X F as' G' H' σ s → Ext as as' G G' → H' D = some (.dK (ks.zip vs)) → G' D = none → D ∉ as' → F.H0 D = none → Reps X.K G' vs ds → ks.length = vs.length → ks.Nodup → Φ ks ds → Q (.ref D) H') →
      tDc (semI X (.Name x p) iter) (gName j) (ttB X scope []) (teB X scope kx) (teB X scope vx) (own.map (·.2)) σ H Q := by
  refine fun as G H σ Q c k => h as G H σ _ c fun J as1 G1 H1 s1 n it c1 x1 okJ ⟨q1, q2, kf, f, q3, q4⟩ => ?_
  subst q1
  intro D hD
  have gD := c1.gnone hD
  have nD := c1.notin hD
  have hD0 := c1.h0none hD
  -- the state of a turn
  have keep : ∀ {as' : List Addr} {G' H' : Hp} {σ' : L2.St} {s' : S} {o : HO}, Cz X F as' G' H' σ' s' → G' D = none → D ∉ as' → F.H0 D = none → Cz X F as' G' (upd H' D o) σ' s' := fun {as' G' H' σ' s' o} c' g' n' h0 => by
    refine ⟨fun b u q => ?_, c'.base, c'.new, fun b u w1 w2 => ?_, c'.len, c'.pre, c'.nd, c'.own, c'.fresh, fun a ha => ?_, fun l kd es q => ?_, c'.slots, c'.slen, c'.har⟩
    · rw [upd_ne (ne_of_none q g')]; exact c'.sub b u q
    · rw [upd_ne (ne_of_none w1 h0)]; exact c'.frame b u w1 w2
    · rw [upd_ne (fun z => n' (by rw [← z]; exact ha))]; exact c'.there a ha
    · obtain ⟨a, ws, w1, w2, w3⟩ := c'.cells l kd es q
      exact ⟨a, ws, w1, w2.keep fun u z => by rw [upd_ne (fun z => n' (by rw [← z]; exact List.mem_of_getElem? w1))]; exact z, w3⟩
  have c1' := keep (o := .dK []) (c1.wipe (own.map (·.2))) gD nD hD0
  refine ⟨fun i m H' => m = n - i ∧ i ≤ n ∧ ∃ as' G' vs, Cz X F as' G' H' (wipe σ (own.map (·.2))) (s1.wipe (own.map (·.2))) ∧ Ext as1 as' G1 G' ∧ H' D = some (.dK ((dcF kf f i).1.zip vs)) ∧ G' D = none ∧ D ∉ as' ∧ Reps X.K G' vs (dcF kf f i).2, ⟨n, by simp, Nat.zero_le _, as1, G1, [], c1', Ext.refl _ _, upd_same, gD, nD, .nil⟩, ?_⟩
  rintro i m H' ⟨rfl, hi, as', G', vs, c', x', hd, g', n', rs⟩
  by_cases hlt : i < n
  · refine .inr ⟨okJ.go i as' G' H' _ _ hlt c' x'.sub, fun H2 => ∃ as' G' vs, Cz X F as' G' H2 (wipe σ (own.map (·.2))) (s1.wipe (own.map (·.2))) ∧ Ext as1 as' G1 G' ∧ H2 D = some (.dK ((dcF kf f (i + 1)).1.zip vs)) ∧ G' D = none ∧ D ∉ as' ∧ Reps X.K G' vs (dcF kf f (i + 1)).2, fun H2 ⟨as2, G2, vs2, w⟩ => ⟨n - (i + 1), by omega, rfl, hlt, as2, G2, vs2, w⟩, fun v H2 y => ?_⟩
    obtain ⟨G2, e, c2, ⟨x2, gk⟩, ve, hv⟩ := okJ.yld i as' G' H' _ _ v H2 hlt c' x'.sub y
    have hd2 : H2 D = _ := okJ.keep i as' G' H' _ _ v H2 hlt c' x'.sub y D _ hd
    have g2 : G2 D = none := gk D (by rw [hd]; exact fun z => nomatch z) g'
    obtain ⟨t1, t2⟩ := q3 i e hlt hv
    have c3 := c2.set (i := j) ve
    have ws : wipe ((wipe σ (own.map (·.2))).set j (some v)) (own.map (·.2)) = wipe σ (own.map (·.2)) := wipe_same (by rw [List.length_set, wipe_length]) fun l hl => by
      rw [List.getElem?_set_ne (fun z => hl (by rw [← z]; exact hj)), wipe_out' hl]
    refine ⟨ws, fun Y hY pins st I => pts_nil.run pins st _ _ _ I ?_⟩
    simp only [if_true]
    have c4 := c3.enter
    refine fun Y2 hY2 => t1 Y2 _ hY2 as' G2 H2 _ _ (cz_blk hY2 c4) fun y as5 G5 H5 y' s5 c5 x5 ve5 ⟨w1, w2⟩ => ?_
    subst w1 w2
    have ve5 := rep_kV ve5
    subst ve5
    have c5 := cz_ublk hY2 c5
    have g5 : G5 D = none := c5.new D g2 (by show H2 D ≠ none; rw [hd2]; exact fun z => nomatch z)
    have d5 : H5 D = _ := c5.frame D _ hd2 n'
    have n5 : D ∉ as5 := fun z => by
      rcases c5.fresh D z with z | z
      · exact n' z
      · rw [show H2 D = none from z] at hd2; cases hd2
    have c5 := c3.leave c5
    refine fun Y3 hY3 => t2 Y3 _ hY3 as5 G5 H5 _ _ (cz_blk hY3 c5.enter) fun y as6 G6 H6 y' s6 c6 x6 ve6 ⟨w1, w2⟩ => ?_
    subst w1 w2
    have ve6 : Rep Y3.K G6 y (f i) := ve6
    rw [hY3.K] at ve6
    have c6 := cz_ublk hY3 c6
    have g6 : G6 D = none := c6.new D g5 (by show H5 D ≠ none; rw [d5]; exact fun z => nomatch z)
    have d6 : H6 D = _ := c6.frame D _ d5 n5
    have n6 : D ∉ as6 := fun z => by
      rcases c6.fresh D z with z | z
      · exact n5 z
      · rw [show H5 D = none from z] at d5; cases d5
    have c6 := (c5.leave c6).wipe (own.map (·.2))
    rw [ws] at c6
    have es : (S.wipe ⟨(s1.dblk (own.map (·.2)) j e).sl, (s1.dblk (own.map (·.2)) j e).ce, s1.ar⟩ (own.map (·.2))) = s1.wipe (own.map (·.2)) := by
      show (((s1.wipe (own.map (·.2))).set j e).wipe (own.map (·.2))) = _
      rw [set_wipe hj, wipe_wipe]
    have c6 : Cz X F as6 G6 H6 (wipe σ (own.map (·.2))) (s1.wipe (own.map (·.2))) := es ▸ c6
    obtain ⟨l1, l2, l3⟩ := dcF_ok kf f i
    have ll : (dcF kf f i).1.length = vs.length := by rw [l1, rs.length]
    refine ⟨_, kf i, rfl, d6, ?_, as6, G6, dpV (dcF kf f i).1 vs (kf i) y, keep c6 g6 n6 hD0, ?_, ?_, g6, n6, ?_⟩
    · rw [List.length_zip, ← ll, Nat.min_self, sizeLine_eq]; omega
    · exact (x'.trans ⟨List.prefix_refl _, x2⟩).trans (x5.trans x6)
    · rw [upd_same, putK_zip ll]; rfl
    · exact reps_dpV ve6 (rs.mono ((x2.trans x5.sub).trans x6.sub))
  · have e : i = n := by omega
    subst e
    obtain ⟨l1, l2, l3⟩ := dcF_ok kf f i
    exact .inl ⟨okJ.stop as' G' H' _ _ c' x'.sub, k D as' G' H' vs _ _ (show Cz X F as' G' H' σ ⟨s1.sl, (s1.wipe (own.map (·.2))).ce, s1.ar⟩ from c1.back c' x') (x1.trans x') hd g' n' hD0 rs (by rw [l1, rs.length]) l2 q4⟩
/-- a dict laid now is locked and frozen -/
theorem lay_dct {as : List Addr} {G H : Hp} {σ : L2.St} {D : Addr} {ks : List Key} {vs : List V} {od : Obj} (c : Cz X F as G H σ s) (gD : G D = none) (nD : D ∉ as) (h0 : F.H0 D = none) : Cz X F as G (upd H D (.frz od (.dK (ks.zip vs)))) σ s := by
    refine ⟨fun b u q => ?_, c.base, c.new, fun b u w1 w2 => ?_, c.len, c.pre, c.nd, c.own, c.fresh, fun a ha => ?_, fun l kd es q => ?_, c.slots, c.slen, c.har⟩
    · rw [upd_ne (ne_of_none q gD)]; exact c.sub b u q
    · rw [upd_ne (ne_of_none w1 h0)]; exact c.frame b u w1 w2
    · rw [upd_ne (fun z => nD (by rw [← z]; exact ha))]; exact c.there a ha
    · obtain ⟨a, ws, w1, w2, w3⟩ := c.cells l kd es q
      exact ⟨a, ws, w1, w2.keep fun u z => by rw [upd_ne (fun z => nD (by rw [← z]; exact List.mem_of_getElem? w1))]; exact z, w3⟩
theorem frz_dct {as : List Addr} {G H : Hp} {σ : L2.St} {D : Addr} {ks : List Key} {vs : List V} {ds : List DL.D} {od : Obj} (c : Cz X F as G H σ s) (gD : G D = none) (nD : D ∉ as) (h0 : F.H0 D = none) (rs : Reps X.K G vs ds) (l : ks.length = vs.length) (nd : ks.Nodup) :
    Cz X F as (upd G D (.frz od (.dK (ks.zip vs)))) (upd H D (.frz od (.dK (ks.zip vs)))) σ s ∧ Same G (upd G D (.frz od (.dK (ks.zip vs)))) ∧ Rep X.K (upd G D (.frz od (.dK (ks.zip vs)))) (.ref D) (.nd (.dct ks) ds) := by
  have sg : Same G (upd G D (.frz od (.dK (ks.zip vs)))) := same_new gD
  exact ⟨(lay_dct c gD nD h0).frzG upd_same gD nD h0, sg, .nd ⟨l, nd, od, upd_same⟩ (rs.mono sg)⟩
/-- {k: v for x in iter}, pure: the dict, frozen -/
theorem je_dcP (bx : Bx X B) (ok : BlkOk X.N X.env.scope scope own) (hj : j ∈ own.map (·.2)) (hn : ∀ Y, IsBlk X scope Y → NmW Y j x)
    (h : DcI X F (.Name x p) iter kx vx scope (own.map (·.2)) j s fun ks ds => Φ (.d (.nd (.dct ks) ds)) s)
    (hs : ∀ x, foldedSetIterable iter X.env x = pure x := by intro _; rfl) : JE X F (.DictComp kx vx [⟨.Name x p, iter, [], 0⟩] scope pos) s Φ := fun as G H σ Q c k =>
  sem_lock (PE.sem (pe_dc bx.calm bx.nd (pi_sem X _ iter) ok (pg_B hn) pts_B pe_B pe_B hs) (dc_read hj h as G H σ _ c fun D as' G' H' vs ks ds c' x' hd gD nD h0 rs l nd q =>
    ⟨D, _, hd, trivial, fun od => by
      obtain ⟨c2, sg, rep⟩ := frz_dct (od := od) c' gD nD h0 rs l nd
      exact k _ as' _ _ _ s c2 (x'.trans ⟨List.prefix_refl _, sg⟩) rep q⟩))
theorem ps_setDc {i : Nat} {y : Str} {py : Pos} {kx vx tg iter : Expr} {ifs : List Expr} {scope : Scope} {own : List (Str × Nat)} {pos spos : Pos} {wi : TI} {g : TG} {tt : TT} {tk tv : TE} (hc : X.calm = true) (hN : X.N.Nodup) (hy : X.N[i]? = some y) (hyl : X.env.scope.names.lookup y = some .local)
    (hsw : swapsWith (.DictComp kx vx [⟨tg, iter, ifs, 0⟩] scope pos) (some (.Name y py)) spos.line X.env = pure true) (hi : PI X tg iter wi) (ok : BlkOk X.N X.env.scope scope own)
    (hg : ∀ (s : Shared) (H : Hp) (C : Addr) (cl : List (Str × Addr)) (fp : List Addr), PG (X.blk s H scope (compEnvC scope cl C X.env) fp) tg g) (ht : ∀ (s : Shared) (H : Hp) (C : Addr) (cl : List (Str × Addr)) (fp : List Addr), PTs (X.blk s H scope (compEnvC scope cl C X.env) fp) ifs tt)
    (hk : ∀ (s : Shared) (H : Hp) (C : Addr) (cl : List (Str × Addr)) (fp : List Addr), PE (X.blk s H scope (compEnvC scope cl C X.env) fp) kx tk)
    (he : ∀ (s : Shared) (H : Hp) (C : Addr) (cl : List (Str × Addr)) (fp : List Addr), PE (X.blk s H scope (compEnvC scope cl C X.env) fp) vx tv) (hs : ∀ x, foldedSetIterable iter X.env x = pure x := by intro _; rfl) :
    PS X (.Assign [.Name y py] (.DictComp kx vx [⟨tg, iter, ifs, 0⟩] scope pos) spos) (fun D σ H => tDc wi g tt tk tv (own.map (·.2)) σ H fun v H' => ∃ d u, H' d = some u ∧ Mut (some u) ∧ ∀ od, gName i v σ (upd H' d (.frz od u)) D.nx) := by
  refine ⟨fun pins s σ H D I h => ?_⟩
  rw [exec_Assign_Name_used _ _ _ _ hsw]
  refine wpAny_bind (wpAny_standAt (wpAny_bind ?_))
  show wpAny _ X.A (do let _ ← comprehension (.DictComp kx vx [⟨tg, iter, ifs, 0⟩] scope pos) scope X.env (firstIterPos [⟨tg, iter, ifs, 0⟩] pos) newDict false (eval iter X.env) (some (assign (.Name y py) X.env))) _ _ s
  refine wpAny_bind (thn (dc_core (Qf := fun _ s' => SP X pins D .next s') hc hN I hi ok hg ht hk he hs h fun L C s' m H' I' q hn f => ?_) fun _ s' hq => wpAny_pure (wpAny_pure hq))
  show wpAny _ _ (assign (.Name y py) X.env (.ref L)) _ _ _
  obtain ⟨d, u, hd, mu, q⟩ := q
  obtain ⟨od, I''⟩ := I'.lock hd mu
  refine wpAny_assign_Name (store_ok2 (v := V.ref L) I'' hN hy (.inl hyl) rfl (fun s2 I2 ⟨a, sb, ha⟩ => ?_) (.inr hyl))
  obtain ⟨f0, f1, f2, f3, f4, f5⟩ := f
  have f0 : upd H' d (.frz od u) C = none := by rw [upd_ne (fun z => by rw [z, hd] at f0; cases f0)]; exact f0
  have haC : C ≠ a := by
    rcases ha with z | z
    · rw [z]; exact f1
    · exact fun e => f4 y a z e.symm
  refine ⟨m, hn.sameBut sb haC, fun h3 sb3 => ?_⟩
  exact ⟨_, _, I2.turned (t' := s2.toks) (fun b o hb e => (sb3.2 b hb).trans e) f0 f1 f3 f4 f5, q od⟩
/-- name = {..} on one line -/
theorem js_setDcP {i : Nat} {y : Str} {py spos : Pos} {P : Po} (bx : Bx X B) (ny : NmW X i y) (ly : X.env.scope.names.lookup y = some .local) (hsw : swapsWith (.DictComp kx vx [⟨.Name x p, iter, [], 0⟩] scope pos) (some (.Name y py)) spos.line X.env = pure true)
    (ok : BlkOk X.N X.env.scope scope own) (hj : j ∈ own.map (·.2)) (hn : ∀ Y, IsBlk X scope Y → NmW Y j x)
    (h : DcI X F (.Name x p) iter kx vx scope (own.map (·.2)) j s fun ks ds => P.nx (s.set i (.d (.nd (.dct ks) ds))))
    (hs : ∀ x, foldedSetIterable iter X.env x = pure x := by intro _; rfl) : JS X F (.Assign [.Name y py] (.DictComp kx vx [⟨.Name x p, iter, [], 0⟩] scope pos) spos) s P := fun as G H σ D c k =>
  PS.sem (ps_setDc bx.calm bx.nd ny.nm ly hsw (pi_sem X _ iter) ok (pg_B hn) pts_B pe_B pe_B hs) (dc_read hj h as G H σ _ c fun d as' G' H' vs ks ds c' x' hd gD nD h0 rs l nd q =>
    ⟨d, _, hd, trivial, fun od => by
      obtain ⟨c2, sg, rep⟩ := frz_dct (od := od) c' gD nD h0 rs l nd
      exact k.nx as' _ _ _ _ (c2.set (i := i) (v := .ref d) (e := .d (.nd (.dct ks) ds)) rep) (x'.sub.trans sg) q⟩)
/-- .. owned -/
theorem js_setDcO {i : Nat} {y : Str} {py spos : Pos} {P : Po} (bx : Bx X B) (ny : NmW X i y) (ly : X.env.scope.names.lookup y = some .local) (hsw : swapsWith (.DictComp kx vx [⟨.Name x p, iter, [], 0⟩] scope pos) (some (.Name y py)) spos.line X.env = pure true)
    (ok : BlkOk X.N X.env.scope scope own) (hj : j ∈ own.map (·.2)) (hn : ∀ Y, IsBlk X scope Y → NmW Y j x)
    (h : DcI X F (.Name x p) iter kx vx scope (own.map (·.2)) j s fun ks ds => P.nx ((s.push (.dct ks) (ds.map .d)).set i (.r s.ce.length)))
    (hs : ∀ x, foldedSetIterable iter X.env x = pure x := by intro _; rfl) : JS X F (.Assign [.Name y py] (.DictComp kx vx [⟨.Name x p, iter, [], 0⟩] scope pos) spos) s P := fun as G H σ D c k =>
  PS.sem (ps_setDc bx.calm bx.nd ny.nm ly hsw (pi_sem X _ iter) ok (pg_B hn) pts_B pe_B pe_B hs) (dc_read hj h as G H σ _ c fun d as' G' H' vs ks ds c' x' hd gD nD h0 rs l nd q =>
    ⟨d, _, hd, trivial, fun od => by
      have c2 := (lay_dct (ks := ks) (vs := vs) (od := od) c' gD nD h0).grow (kd := .dct ks) gD nD h0 ⟨l, nd, od, upd_same⟩ (VEs.ofReps rs)
      exact k.nx _ _ _ _ _ (c2.set (i := i) (v := .ref d) (e := .r s.ce.length) ⟨d, by rw [← c'.len, List.getElem?_append_right (Nat.le_refl _)]; simp, rfl⟩) x'.sub q⟩)
end
theorem jo_none {Φ : Option Int → S → Prop} (h : Φ none s) : JO X F none s Φ := h
theorem jo_some {e : Expr} {Φ : Option Int → S → Prop} (h : JE X F e s fun e1 s1 => ∃ i, e1 = .d (.int i) ∧ Φ (some i) s1) : JO X F (some e) s Φ := h
end DL
namespace DL
open PySem PySem.Spec PyProof.Rows L2
variable {X : Cx} {F : Fr} {s : S}
/-! ### a block's scope, by looking -/
def blkB (N : List Str) (sc scope : Scope) (own : List (Str × Nat)) : Bool :=
  decide (scope.kind = .function) && scope.names.all (fun y => decide (scope.names.lookup y.1 = some y.2)) && own.all (fun p => decide (N[p.2]? = some p.1))
    && scope.names.all (fun y => decide (y.2 = .free → (sc.names.lookup y.1 = some .cell ∨ sc.names.lookup y.1 = some .free)))
    && scope.names.all (fun y => decide ((y.2 = .local ∨ y.2 = .cell) → (y.1 ∈ own.map (·.1) ∨ y.1 ∉ N)))
theorem blk_ok {P : Program} {w : World} {K : PySem.W.Frag} {mg : Str → Option Value} {base : Heap} {N : List Str} {sc scope : Scope} {k : Nat} {own : List (Str × Nat)} (hX : XIs X P w K mg base N sc k) (h : blkB N sc scope own = true) : BlkOk X.N X.env.scope scope own := by
  rw [hX.eN, hX.eS]
  unfold blkB at h
  simp only [Bool.and_eq_true, List.all_eq_true, decide_eq_true_eq] at h
  obtain ⟨⟨⟨⟨h1, h2⟩, h3⟩, h4⟩, h5⟩ := h
  exact ⟨h1, h2, h3, h4, h5⟩
/-! ### keys and what stands there -/
theorem lk_get {α : Type} : ∀ {ks : List Key} {es : List α} {i : Nat} {k : Key} {e : α}, ks.Nodup → ks[i]? = some k → es[i]? = some e → lk (ks.zip es) k = some e
  | [], _, _, _, _, _, h, _ => by simp at h
  | k' :: ks, [], _, _, _, _, _, h => by simp at h
  | k' :: ks, e' :: es, 0, k, e, _, h1, h2 => by
    simp at h1 h2
    subst h1 h2
    simp [lk]
  | k' :: ks, e' :: es, i + 1, k, e, hn, h1, h2 => by
    simp at h1 h2
    have hk : k ∈ ks := List.mem_of_getElem? h1
    have hne : k' ≠ k := fun z => (List.nodup_cons.mp hn).1 (z ▸ hk)
    have := lk_get (List.nodup_cons.mp hn).2 h1 h2
    unfold lk at this ⊢
    rw [List.zip_cons_cons, List.find?_cons_of_neg (by simp [hne])]
    exact this
theorem lk_map {α β : Type} {f : α → β} {k : Key} : ∀ {ks : List Key} {es : List α}, lk (ks.zip (es.map f)) k = (lk (ks.zip es) k).map f
  | [], es => by simp [lk]
  | _ :: _, [] => by simp [lk]
  | k' :: ks, e :: es => by
    have ih := lk_map (f := f) (k := k) (ks := ks) (es := es)
    unfold lk at ih ⊢
    rw [List.map_cons, List.zip_cons_cons, List.zip_cons_cons]
    by_cases h : k' = k
    · rw [List.find?_cons_of_pos (by simp [h]), List.find?_cons_of_pos (by simp [h])]; rfl
    · rw [List.find?_cons_of_neg (by simp [h]), List.find?_cons_of_neg (by simp [h])]; exact ih
theorem memK_get {ks : List Key} {i : Nat} {k : Key} (h : ks[i]? = some k) : memK k ks = true := memK_iff.mpr (List.mem_of_getElem? h)
theorem memK_not {ks : List Key} {k : Key} (h : k ∉ ks) : ¬ memK k ks = true := fun z => h (memK_iff.mp z)
theorem dpK_new {ks : List Key} {k : Key} (h : k ∉ ks) : dpK ks k = ks ++ [k] := if_neg (memK_not h)
theorem dpV_new {α : Type} {ks : List Key} {es : List α} {k : Key} {e : α} (h : k ∉ ks) : dpV ks es k e = es ++ [e] := if_neg (memK_not h)
theorem dpK_old {ks : List Key} {k : Key} (h : k ∈ ks) : dpK ks k = ks := if_pos (memK_iff.mpr h)
theorem zip_same {α : Type} {k : Key} {e : α} : ∀ {ks : List Key} {es : List α}, k ∉ ks → ks.length = es.length → (ks.zip es).map (fun q => if q.1 = k then e else q.2) = es
  | [], [], _, _ => rfl
  | [], _ :: _, _, h => by simp at h
  | _ :: _, [], _, h => by simp at h
  | a :: ks, b :: es, hk, h => by
    simp only [List.mem_cons, not_or] at hk
    rw [List.zip_cons_cons, List.map_cons, zip_same hk.2 (by simpa using h), if_neg (fun z => hk.1 z.symm)]
theorem dpV_get {α : Type} : ∀ {ks : List Key} {es : List α} {i : Nat} {k : Key} {e : α}, ks.Nodup → ks[i]? = some k → ks.length = es.length → dpV ks es k e = es.set i e
  | [], _, _, _, _, _, h, _ => by simp at h
  | k' :: ks, [], _, _, _, _, _, h => by simp at h
  | k' :: ks, e' :: es, 0, k, e, hn, h1, h2 => by
    simp at h1
    subst h1
    have hk : k' ∉ ks := (List.nodup_cons.mp hn).1
    unfold dpV
    rw [if_pos (memK_iff.mpr List.mem_cons_self)]
    simp only [List.zip_cons_cons, List.map_cons, if_true, List.set_cons_zero, List.cons.injEq, true_and]
    exact zip_same hk (by simpa using h2)
  | k' :: ks, e' :: es, i + 1, k, e, hn, h1, h2 => by
    simp at h1
    have hk : k ∈ ks := List.mem_of_getElem? h1
    have hne : k' ≠ k := fun z => (List.nodup_cons.mp hn).1 (z ▸ hk)
    have ih := dpV_get (e := e) (List.nodup_cons.mp hn).2 h1 (by simpa using h2)
    unfold dpV at ih ⊢
    rw [if_pos (memK_iff.mpr hk)] at ih
    rw [if_pos (memK_iff.mpr (List.mem_cons_of_mem _ hk)), List.zip_cons_cons, List.map_cons, ih, if_neg hne, List.set_cons_succ]
theorem nodup_get {α : Type} {l : List α} {i j : Nat} {a : α} (h : l.Nodup) (h1 : l[i]? = some a) (h2 : l[j]? = some a) : i = j := by
  obtain ⟨l1, e1⟩ := List.getElem?_eq_some_iff.mp h1
  obtain ⟨l2, e2⟩ := List.getElem?_eq_some_iff.mp h2
  exact (List.getElem_inj h).mp (e1.trans e2.symm)
theorem notin_take {α : Type} {l : List α} {i : Nat} {a : α} (h : l.Nodup) (h1 : l[i]? = some a) : a ∉ l.take i := fun z => by
  obtain ⟨j, hj⟩ := List.getElem?_of_mem z
  have hl := (List.getElem?_eq_some_iff.mp hj).1
  rw [List.length_take] at hl
  rw [List.getElem?_take_of_lt (by omega)] at hj
  have := nodup_get h h1 hj
  omega
theorem take_snoc {α : Type} {l : List α} {i : Nat} {a : α} (h : l[i]? = some a) : l.take i ++ [a] = l.take (i + 1) := by
  rw [List.take_add_one, h]; rfl
theorem nodup_inr {ks : List Str} (h : ks.Nodup) : (ks.map (Sum.inr : Str → Key)).Nodup := by
  induction ks with
  | nil => exact List.nodup_nil
  | cons a ks ih =>
    rw [List.map_cons, List.nodup_cons]
    refine ⟨fun z => ?_, ih (List.nodup_cons.mp h).2⟩
    obtain ⟨b, h1, h2⟩ := List.mem_map.mp z
    cases h2
    exact (List.nodup_cons.mp h).1 h1
theorem notin_inr {ks : List Str} {x : Str} (h : x ∉ ks) : (Sum.inr x : Key) ∉ ks.map Sum.inr := fun z => by
  obtain ⟨b, h1, h2⟩ := List.mem_map.mp z
  cases h2
  exact h h1
/-! ### name = [..] on one line, pure -/
section
variable {elt iter : Expr} {scope : Scope} {own : List (Str × Nat)} {pos p : Pos} {x : Str} {j B : Nat}
theorem js_setLcP {i : Nat} {y : Str} {py spos : Pos} {P : Po} (bx : Bx X B) (ny : NmW X i y) (ly : X.env.scope.names.lookup y = some .local) (hsw : swapsWith (.ListComp elt [⟨.Name x p, iter, [], 0⟩] scope pos) (some (.Name y py)) spos.line X.env = pure true)
    (ok : BlkOk X.N X.env.scope scope own) (hj : j ∈ own.map (·.2)) (hn : ∀ Y, IsBlk X scope Y → NmW Y j x)
    (h : JI X F (.Name x p) iter s fun n it s1 => s1 = s ∧ n ≤ 16000000 ∧ ∃ f : Nat → D, (∀ i v acc, i < n → it i v → ∀ Y, IsBlk X scope Y → JE Y F elt (s.blk (own.map (·.2)) acc j v) fun y s3 => y = .d (f i) ∧ s3 = s.blk (own.map (·.2)) acc j v) ∧ P.nx (s.set i (.d (.nd .lst ((List.range n).map f)))))
    (hs : ∀ x, foldedSetIterable iter X.env x = pure x := by intro _; rfl) : JS X F (.Assign [.Name y py] (.ListComp elt [⟨.Name x p, iter, [], 0⟩] scope pos) spos) s P := fun as G H σ D c k =>
  PS.sem (ps_setLc bx.calm bx.nd ny.nm ly hsw (pi_sem X _ iter) ok (pg_B hn) pts_B pe_B hs) (lc_read (Φ := fun e1 s1 => ∃ ds, e1 = .r s.ce.length ∧ s1 = s.push .lst (ds.map .d) ∧ P.nx (s.set i (.d (.nd .lst ds)))) hj
    (fun as G H σ R c k => h as G H σ R c fun J as1 G1 H1 s1 n it c1 x1 okJ ⟨q1, q2, f, q3, q4⟩ => by
      subst q1
      refine k J as1 G1 H1 s1 n it c1 x1 okJ ⟨_, (lc_pure hj q2 q3).1, (lc_pure hj q2 q3).2, ?_⟩
      rintro acc s' ⟨rfl, rfl⟩
      exact ⟨_, rfl, rfl, q4⟩) as G H σ _ c fun v as1 G1 H1 e1 s1 c1 x1 ve ⟨ds, q1, q2, q3⟩ => by
    subst q1 q2
    obtain ⟨G2, c2, sg, rep⟩ := c.popFrz c1 x1
    obtain ⟨q, hq, rfl⟩ := ve
    exact k.nx as G2 H1 _ _ (c2.set (i := i) (e := .d (.nd .lst ds)) (rep q hq)) (x1.sub.trans sg) q3)
end
theorem XIs.gcS {P : Program} {w : World} {K : PySem.W.Frag} {mg : Str → Option Value} {base : Heap} {N : List Str} {sc : Scope} {k : Nat} {x z : Str} (hX : XIs X P w K mg base N sc k) (h : sc.names.lookup x = some .globalImplicit) (hm : ∃ u, mg x = some u ∧ RelV (.str z) u) (hd : (x == ("__debug__" : Str)) = false := by decide) : Gc X x (.str z) :=
  ⟨hX.gl h, let ⟨u, h1, h2⟩ := hm; ⟨.str z, u, by rw [hX.eM]; exact h1, h2, .str z⟩, hd⟩
theorem XIs.gcI {P : Program} {w : World} {K : PySem.W.Frag} {mg : Str → Option Value} {base : Heap} {N : List Str} {sc : Scope} {k : Nat} {x : Str} {i : Int} (hX : XIs X P w K mg base N sc k) (h : sc.names.lookup x = some .globalImplicit) (hm : ∃ u, mg x = some u ∧ RelV (.int i) u) (hd : (x == ("__debug__" : Str)) = false := by decide) : Gc X x (.int i) :=
  ⟨hX.gl h, let ⟨u, h1, h2⟩ := hm; ⟨.int i, u, by rw [hX.eM]; exact h1, h2, .int i⟩, hd⟩
/-- o[i] = v, o an owned list or an owned dict -/
theorem jg_setX {B : Nat} {o i : Expr} {v : E} {Φ : S → Prop} {p : Pos} (bx : Bx X B) (hH : X.H_0 = F.H0) (h : JE X F o s fun eo s1 => JE X F i s1 fun ei s2 =>
      (∃ k n es j, eo = .r k ∧ ei = .d (.int n) ∧ nth s2.ce k = some (.nd .lst es) ∧ ixN es.length n = some j ∧ Φ (s2.put k .lst (es.set j v))) ∨
      (∃ k ks es kk, eo = .r k ∧ keyE ei = some kk ∧ nth s2.ce k = some (.nd (.dct ks) es) ∧ s2.ar ≤ k ∧ es.length < sizeLine ∧ Φ (s2.put k (.dct (dpK ks kk)) (dpV ks es kk v))))
    (ha : ∀ v, assign (.Subscript o i p) X.env v = (do
      let ov ← holding [v] (eval o X.env)
      let iv ← holding [v, ov] (eval i X.env)
      standAt p
      holding [v, ov, iv] (setItem ov iv v)
      release [v, ov, iv] []) := by intro _; rfl) : JG X F (.Subscript o i p) v s Φ :=
  fun as G H σ u Q c ve k => PG.sem (pg_sub (t := fun a b c H Q => rSetL a b c H Q ∨ _) (pe_sem X o) (pe_sem X i) (fun pins st σ H o i v ov iv u Q I ro ri rv h => h.elim (set_list pins st σ H o i v ov iv u Q I ro ri rv) (set_dictZ bx.hu pins st σ H o i v ov iv u Q I ro ri rv)) ha) (h as G H σ _ c fun v1 as1 G1 H1 e1 s1 c1 x1 ve1 h1 => h1 as1 G1 H1 σ _ c1 fun v2 as2 G2 H2 e2 s2 c2 x2 ve2 hq => by
    rcases hq with ⟨kk, n, es, j, q1, q2, q3, q4, q5⟩ | ⟨j, ks, es, kk, q1, q2, q3, q4, q5, q6⟩
    · refine .inl ?_
      subst q1 q2
      cases ve2
      obtain ⟨a, ha, rfl⟩ := x2.ve ve1
      rw [nth_eq] at q3
      obtain ⟨a', vs, g1, g2, g3⟩ := c2.cells kk _ _ q3
      rw [ha] at g1
      cases g1
      have g2' : H2 a = some (.lst vs) := g2
      have hl := Paired.length g3
      refine ⟨a, vs, n, j, rfl, rfl, g2', by rw [hl]; exact q4, ?_⟩
      have vu := (x1.trans x2).ve ve
      have hv : VEs X.K G2 as2 (vs.set j u) (es.set j v) := by
        clear q4 q5 g2' g2 hl q3
        induction g3 generalizing j with
        | nil => exact .nil
        | cons r t ih =>
          cases j with
          | zero => exact .cons vu t
          | succ j => exact .cons r (ih j)
      exact k as2 G2 _ σ _ (c2.put (kd := .lst) q3 ha upd_same hv) (x1.trans x2) q5
    · refine .inr ?_
      subst q1
      obtain rfl := keyE_v q2 ve2
      obtain ⟨a, ha, rfl⟩ := x2.ve ve1
      rw [nth_eq] at q3
      obtain ⟨a', vs, g1, ⟨g2, g3, od, g4⟩, g5⟩ := c2.cells j _ _ q3
      rw [ha] at g1
      cases g1
      have hl := Paired.length g5
      have nA : a ∉ F.A0 := fun z => by
        obtain ⟨l, hl⟩ := List.getElem?_of_mem z
        have q := pre_get c2.pre hl
        obtain ⟨l1, e1⟩ := List.getElem?_eq_some_iff.mp q
        obtain ⟨l2, e2⟩ := List.getElem?_eq_some_iff.mp ha
        have := (List.getElem_inj c2.nd).mp (e1.trans e2.symm)
        have l3 := (List.getElem?_eq_some_iff.mp hl).1
        rw [c2.har] at l3
        omega
      have h0 : F.H0 a = none := (c2.fresh a (List.mem_of_getElem? ha)).resolve_left nA
      refine ⟨a, od, _, kk, rfl, rfl, g4, fun o' u' z => (by rw [hH, h0] at z; cases z), by rw [List.length_zip, g2, Nat.min_self, hl]; exact q5, fun od' => ?_⟩
      rw [putK_zip g2]
      exact k as2 G2 _ σ _ (c2.put (kd := .dct (dpK ks kk)) q3 ha ⟨dpV_len g2, dpK_nodup g3, od', upd_same⟩ (ves_dpV ((x1.trans x2).ve ve) g5)) (x1.trans x2) q6)
theorem range_getD {α β : Type} (g : α → β) (d : α) (ys : List α) : (List.range ys.length).map (fun i => g (ys.getD i d)) = ys.map g := by
  apply List.ext_getElem?
  intro i
  rw [List.getElem?_map, List.getElem?_map]
  by_cases h : i < ys.length
  · rw [List.getElem?_range h, List.getElem?_eq_getElem h]
    simp [List.getD, List.getElem?_eq_getElem h]
  · rw [List.getElem?_eq_none (by simpa using h), List.getElem?_eq_none (by omega)]
    rfl
theorem dcF_getD {α : Type} {g : α → Key} {f : α → D} {d : α} {ys : List α} (h : (ys.map g).Nodup) : dcF (fun i => g (ys.getD i d)) (fun i => f (ys.getD i d)) ys.length = (ys.map g, ys.map f) := by
  rw [dcF_inj, range_getD, range_getD]
  intro i j hij hj e
  have hi : i < ys.length := by omega
  have h1 : (ys.map g)[i]? = some (g (ys.getD i d)) := by rw [List.getElem?_map, List.getElem?_eq_getElem hi]; simp [List.getD, List.getElem?_eq_getElem hi]
  have h2 : (ys.map g)[j]? = some (g (ys.getD j d)) := by rw [List.getElem?_map, List.getElem?_eq_getElem hj]; simp [List.getD, List.getElem?_eq_getElem hj]
  have e : g (ys.getD i d) = g (ys.getD j d) := e
  rw [e] at h1
  have := nodup_get h h1 h2
  omega
theorem getD_at {α : Type} {d : α} {ys : List α} {i : Nat} {x : α} (h : ys[i]? = some x) : ys.getD i d = x := by
  simp [List.getD, h]
def leavesB : List Stmt → Bool
  | [] => false
  | [.Return _ _] => true
  | [.Break _] => true
  | [.Continue _] => true
  | [.Raise _ _ _] => true
  | _ :: r => leavesB r
/-- an if whose block ends by leaving -/
theorem jss_ifL {c : Expr} {t sts : List Stmt} {pos : Pos} {P : Po} (hl : leavesB t = true) (h : JT X F c s fun k s1 => if k = true then JSs X F t s1 (P.then fun s1 => JSs X F sts s1 P) else JSs X F sts s1 P) : JSs X F (.If c t [] pos :: sts) s P :=
  jss_cons (js_if (fun as G H σ Q cz k => h as G H σ Q cz fun b as' G' H' s' c' x q => k b as' G' H' s' c' x (by
    cases b with
    | true => exact q
    | false => exact jss_nilT (P := P) (N := fun s1 => JSs X F sts s1 P) q)))
section
variable {e : E} {Φ : E → S → Prop}
theorem jr_isT {b : Bool} (h : isBl b e = true) (q : Φ (.d (.bl true)) s) : JR X F (compareOp .Is) e (.d (.bl b)) s Φ := jr_isBl (by rw [h]; exact q)
theorem jr_isF {b : Bool} (h : isBl b e = false) (q : Φ (.d (.bl false)) s) : JR X F (compareOp .Is) e (.d (.bl b)) s Φ := jr_isBl (by rw [h]; exact q)
theorem jr_isNT (h : isNon e = true) (q : Φ (.d (.bl true)) s) : JR X F (compareOp .Is) e (.d .non) s Φ := jr_isN (by rw [h]; exact q)
theorem jr_isNF (h : isNon e = false) (q : Φ (.d (.bl false)) s) : JR X F (compareOp .Is) e (.d .non) s Φ := jr_isN (by rw [h]; exact q)
theorem jr_notNT (h : isNon e = true) (q : Φ (.d (.bl false)) s) : JR X F (compareOp .IsNot) e (.d .non) s Φ := jr_notN (by rw [h]; exact q)
theorem jr_notNF (h : isNon e = false) (q : Φ (.d (.bl true)) s) : JR X F (compareOp .IsNot) e (.d .non) s Φ := jr_notN (by rw [h]; exact q)
theorem jr_eqiS {i : Int} (q : Φ (.d (.bl true)) s) : JR X F (compareOp .Eq) (.d (.int i)) (.d (.int i)) s Φ := jr_eqi (by rw [decide_eq_true rfl]; exact q)
theorem jr_eqsS {i : Str} (q : Φ (.d (.bl true)) s) : JR X F (compareOp .Eq) (.d (.str i)) (.d (.str i)) s Φ := jr_eqs (by rw [decide_eq_true rfl]; exact q)
theorem jr_eqbS {i : Bool} (q : Φ (.d (.bl true)) s) : JR X F (compareOp .Eq) (.d (.bl i)) (.d (.bl i)) s Φ := jr_eqb (by rw [decide_eq_true rfl]; exact q)
theorem jr_nebS {i : Bool} (q : Φ (.d (.bl false)) s) : JR X F (compareOp .NotEq) (.d (.bl i)) (.d (.bl i)) s Φ := jr_neb (by rw [decide_eq_true rfl]; exact q)
end
theorem lk_memK {α : Type} {ks : List Key} {es : List α} {k : Key} {e : α} (h : lk (ks.zip es) k = some e) : memK k ks = true := by
  unfold lk at h
  cases q : (ks.zip es).find? fun kv => decide (kv.1 = k) with
  | none => rw [q] at h; cases h
  | some p =>
    have h1 := List.mem_of_find?_eq_some q
    have h2 := List.find?_some q
    have h3 : p.1 = k := of_decide_eq_true h2
    exact memK_iff.mpr (h3 ▸ (List.of_mem_zip h1).1)
theorem kit_NoneType_dict : kitB "NoneType" "dict" = some false := by decide +kernel
theorem kit_NoneType_list : kitB "NoneType" "list" = some false := by decide +kernel
theorem kit_NoneType_tuple : kitB "NoneType" "tuple" = some false := by decide +kernel
theorem kit_NoneType_str : kitB "NoneType" "str" = some false := by decide +kernel
theorem kit_NoneType_int : kitB "NoneType" "int" = some false := by decide +kernel
theorem kit_NoneType_bool : kitB "NoneType" "bool" = some false := by decide +kernel
theorem kit_bool_dict : kitB "bool" "dict" = some false := by decide +kernel
theorem kit_bool_list : kitB "bool" "list" = some false := by decide +kernel
theorem kit_bool_tuple : kitB "bool" "tuple" = some false := by decide +kernel
theorem kit_bool_str : kitB "bool" "str" = some false := by decide +kernel
theorem kit_bool_int : kitB "bool" "int" = some true := by decide +kernel
theorem kit_bool_bool : kitB "bool" "bool" = some true := by decide +kernel
theorem kit_int_dict : kitB "int" "dict" = some false := by decide +kernel
theorem kit_int_list : kitB "int" "list" = some false := by decide +kernel
theorem kit_int_tuple : kitB "int" "tuple" = some false := by decide +kernel
theorem kit_int_str : kitB "int" "str" = some false := by decide +kernel
theorem kit_int_int : kitB "int" "int" = some true := by decide +kernel
theorem kit_int_bool : kitB "int" "bool" = some false := by decide +kernel
theorem kit_str_dict : kitB "str" "dict" = some false := by decide +kernel
theorem kit_str_list : kitB "str" "list" = some false := by decide +kernel
theorem kit_str_tuple : kitB "str" "tuple" = some false := by decide +kernel
theorem kit_str_str : kitB "str" "str" = some true := by decide +kernel
theorem kit_str_int : kitB "str" "int" = some false := by decide +kernel
theorem kit_str_bool : kitB "str" "bool" = some false := by decide +kernel
theorem kit_tuple_dict : kitB "tuple" "dict" = some false := by decide +kernel
theorem kit_tuple_list : kitB "tuple" "list" = some false := by decide +kernel
theorem kit_tuple_tuple : kitB "tuple" "tuple" = some true := by decide +kernel
theorem kit_tuple_str : kitB "tuple" "str" = some false := by decide +kernel
theorem kit_tuple_int : kitB "tuple" "int" = some false := by decide +kernel
theorem kit_tuple_bool : kitB "tuple" "bool" = some false := by decide +kernel
theorem kit_list_dict : kitB "list" "dict" = some false := by decide +kernel
theorem kit_list_list : kitB "list" "list" = some true := by decide +kernel
theorem kit_list_tuple : kitB "list" "tuple" = some false := by decide +kernel
theorem kit_list_str : kitB "list" "str" = some false := by decide +kernel
theorem kit_list_int : kitB "list" "int" = some false := by decide +kernel
theorem kit_list_bool : kitB "list" "bool" = some false := by decide +kernel
theorem kit_dict_dict : kitB "dict" "dict" = some true := by decide +kernel
theorem kit_dict_list : kitB "dict" "list" = some false := by decide +kernel
theorem kit_dict_tuple : kitB "dict" "tuple" = some false := by decide +kernel
theorem kit_dict_str : kitB "dict" "str" = some false := by decide +kernel
theorem kit_dict_int : kitB "dict" "int" = some false := by decide +kernel
theorem kit_dict_bool : kitB "dict" "bool" = some false := by decide +kernel
end DL
namespace DL
open PySem PySem.Spec PyProof.Rows L2
variable {X : Cx} {F : Fr} {s : S}
variable {e a b c : Expr} {es rest : List Expr} {Φ : E → S → Prop} {pos p p2 : Pos} {x : Str} {k B : Nat}
/-- no owned thing among them -/
def allD : List E → Bool
  | [] => true
  | .d _ :: r => allD r
  | .r _ :: _ => false
theorem allD_eq {s : S} : ∀ {vs : List E} {ds : List D}, allD vs = true → s.views vs = some ds → dsOf vs = some ds
  | [], ds, _, h => by cases h; rfl
  | .r _ :: _, _, h, _ => by cases h
  | .d y :: r, ds, h, q => by
    unfold S.views at q
    cases q2 : s.views r with
    | none => rw [q2] at q; simp [S.view] at q
    | some ds' =>
      rw [q2] at q
      simp [S.view] at q
      subst q
      have := allD_eq (vs := r) h q2
      rw [dsOf_eq this]
      exact dsOf_map (y :: ds')
def RtX (Φ : E → S → Prop) (s : S) (vs : List E) (r : Rt) : Prop := match allD vs with
  | true => RtΦ Φ s r
  | false => r.imm = true ∧ RtΦ Φ s r
theorem RtX.ofP {s : S} {vs : List E} {r : Rt} (h : RtX Φ s vs r) (hd : allD vs = true) : RtΦ Φ s r := by unfold RtX at h; rw [hd] at h; exact h
theorem RtX.ofB {s : S} {vs : List E} {r : Rt} (h : RtX Φ s vs r) (hd : allD vs = false) : r.imm = true ∧ RtΦ Φ s r := by unfold RtX at h; rw [hd] at h; exact h
theorem rtX_P {vs : List E} {r : Rt} (h : RtΦ Φ s r) (hd : allD vs = true) : RtX Φ s vs r := by unfold RtX; rw [hd]; exact h
theorem rtX_B {vs : List E} {r : Rt} (hi : r.imm = true) (h : RtΦ Φ s r) : RtX Φ s vs r := by
  unfold RtX
  cases allD vs with
  | true => exact h
  | false => exact ⟨hi, h⟩
theorem ex_views {vs : List E} {ds : List D} {Q : List D → Prop} (h : s.views vs = some ds) (q : Q ds) : ∃ ds, s.views vs = some ds ∧ Q ds := ⟨ds, h, q⟩
theorem views_nil : s.views [] = some [] := rfl
theorem views_d {y : D} {r : List E} {ds : List D} (h : s.views r = some ds) : s.views (.d y :: r) = some (y :: ds) := by unfold S.views; rw [h]; rfl
theorem views_l {j : Nat} {es : List E} {ds rs : List D} {r : List E} (h1 : nth s.ce j = some (.nd .lst es)) (h2 : dsOf es = some ds) (h : s.views r = some rs) : s.views (.r j :: r) = some (.nd .lst ds :: rs) := by
  have e : s.view (.r j) = some (.nd .lst ds) := by
    show (match nth s.ce j with
      | some (.nd .lst es) => (dsOf es).map (D.nd .lst)
      | some (.nd (.dct ks) es) => (dsOf es).map (D.nd (.dct ks))
      | _ => (none : Option D)) = _
    rw [h1]; show (dsOf es).map _ = _; rw [h2]; rfl
  unfold S.views; rw [h, e]
theorem views_k {j : Nat} {ks : List Key} {es : List E} {ds rs : List D} {r : List E} (h1 : nth s.ce j = some (.nd (.dct ks) es)) (h2 : dsOf es = some ds) (h : s.views r = some rs) : s.views (.r j :: r) = some (.nd (.dct ks) ds :: rs) := by
  have e : s.view (.r j) = some (.nd (.dct ks) ds) := by
    show (match nth s.ce j with
      | some (.nd .lst es) => (dsOf es).map (D.nd .lst)
      | some (.nd (.dct ks) es) => (dsOf es).map (D.nd (.dct ks))
      | _ => (none : Option D)) = _
    rw [h1]; show (dsOf es).map _ = _; rw [h2]; rfl
  unfold S.views; rw [h, e]
/-- .. as a step -/
def VwK (s : S) (vs : List E) (Q : List D → Prop) : Prop := ∃ ds, s.views vs = some ds ∧ Q ds
theorem vk_nil {Q : List D → Prop} (q : Q []) : VwK s [] Q := ⟨[], rfl, q⟩
theorem vk_d {y : D} {r : List E} {Q : List D → Prop} (q : VwK s r fun ds => Q (y :: ds)) : VwK s (.d y :: r) Q := let ⟨ds, h, q⟩ := q; ⟨_, views_d h, q⟩
theorem vk_l {j : Nat} {es : List E} {ds : List D} {r : List E} {Q : List D → Prop} (h1 : nth s.ce j = some (.nd .lst es)) (h2 : dsOf es = some ds) (q : VwK s r fun rs => Q (.nd .lst ds :: rs)) : VwK s (.r j :: r) Q := let ⟨_, h, q⟩ := q; ⟨_, views_l h1 h2 h, q⟩
theorem vk_k {j : Nat} {ks : List Key} {es : List E} {ds : List D} {r : List E} {Q : List D → Prop} (h1 : nth s.ce j = some (.nd (.dct ks) es)) (h2 : dsOf es = some ds) (q : VwK s r fun rs => Q (.nd (.dct ks) ds :: rs)) : VwK s (.r j :: r) Q := let ⟨_, h, q⟩ := q; ⟨_, views_k h1 h2 h, q⟩
/-- a call of a def that owns none of its arguments: frozen ones, or owned ones that it only reads -/
theorem je_callX {R : RP} (cb : CbP X x k R) (bx : Bx X B) (hB : k ≤ B)
    (h : JA X F (a :: es) s fun vs s1 => VwK s1 vs fun ds => R ds fun r => RtX Φ s1 vs r) (hdb : (x == ("__debug__" : Str)) = false := by decide) (he : starEach (a :: es) X.env = (false, eval a X.env) :: starEach es X.env := by rfl)
    (hpl : (backTo pos (starEach es X.env)).any (·.1) = false := by rfl) : JE X F (.Call (.Name x p) (a :: es) [] pos) s Φ := by
  obtain ⟨f, fd, ps, h1, h2, h3, h4⟩ := cb.ex
  refine je_of (pe_call h4 (bx.room.mono hB) cb.gl h1 h2 h3 .nil pass0 (pa_sem X _) hdb he hpl) fun as G H σ Q c kk => h as G H σ _ c fun vs as1 G1 H1 es1 s1 c1 x1 ves ⟨ds, e1, hR⟩ => ?_
  rw [List.append_nil]
  cases hd : allD es1 with
  | true =>
    rw [dsOf_eq (allD_eq hd e1)] at ves
    refine ⟨G1, ds, c1.sub, ves.reps, cb.mono ds _ _ (fun r hr0 v G' H' q1 q2 q3 q4 q5 => ?_) hR⟩
    have hr := hr0.ofP hd
    have c2 := c1.call q1 q2 q3 q4
    have x2 : Ext as1 as1 G1 G' := ⟨List.prefix_refl _, q2⟩
    cases r with
    | dat y => exact kk v as1 G' H' (.d y) s1 c2 (x1.trans x2) q5 hr
    | new kd ds' =>
      obtain ⟨b, ws, rfl, w1, w2, w3, w4⟩ := q5
      have c3 := c2.grow (kd := kd) (es := ds'.map .d) w2 (c1.notin w1) (c1.h0none w1) w3 (VEs.ofReps w4)
      exact kk _ _ G' H' (.r s1.ce.length) _ c3 ((x1.trans x2).trans ⟨pre_snoc, Same.refl _⟩) ⟨b, by rw [← c1.len, List.getElem?_append_right (Nat.le_refl _)]; simp, rfl⟩ hr
  | false =>
    refine ⟨lend s1 as1 G1 H1, ds, lend_in c1.sub, c1.views ves e1, cb.mono ds _ _ (fun r hr0 v G' H' q1 q2 q3 q4 q5 => ?_) hR⟩
    obtain ⟨hi, hr⟩ := hr0.ofB hd
    -- what is frozen behind: G' without the owned
    obtain ⟨G2, hG2, hG3⟩ : ∃ G2 : Hp, (∀ b, Alive s1 as1 b → G2 b = none) ∧ ∀ b, ¬ Alive s1 as1 b → G2 b = G' b := by
      classical
      exact ⟨fun b => if Alive s1 as1 b then none else G' b, fun b h => if_pos h, fun b h => if_neg h⟩
    have ga : ∀ {b : Addr}, Alive s1 as1 b → G1 b = none := fun {b} ⟨k, kd, es, w1, w2⟩ => c1.own k b _ _ w1 w2
    have s1' : Same G1 G2 := fun b o q => by
      rw [hG3 b (fun z => by rw [ga z] at q; cases q)]
      exact q2 b o (lend_sub b o q)
    have s2' : Same G2 H' := fun b o q => by
      by_cases hb : Alive s1 as1 b
      · rw [hG2 b hb] at q; cases q
      · rw [hG3 b hb] at q; exact q3 b o q
    have s4' : ∀ b, G1 b = none → H1 b ≠ none → G2 b = none := fun b w1 w2 => by
      by_cases hb : Alive s1 as1 b
      · exact hG2 b hb
      · rw [hG3 b hb]
        exact q4 b (lend_no w1 hb) w2
    have c2 := c1.call q1 s1' s2' s4'
    have x2 : Ext as1 as1 G1 G2 := ⟨List.prefix_refl _, s1'⟩
    -- a tuple is no owned cell
    have tups : ∀ a vs, Rd G' a (.tup vs) → Rd G2 a (.tup vs) := fun b ws hb => by
      have nb : ¬ Alive s1 as1 b := fun z => by
        have w0 := ga z
        obtain ⟨j, kd, es, hj, hcl⟩ := z
        obtain ⟨b', us, g1, g2, g3⟩ := c1.cells j _ _ hcl
        rw [hj] at g1
        cases g1
        obtain ⟨o, ho⟩ := g2.some
        have hG' : G' b = some o := q2 b o (by rw [lend_yes w0 ⟨j, kd, es, hj, hcl⟩]; exact ho)
        have g2' : CellAt G' b us kd := g2.keep fun u q => by rw [ho] at q; cases q; exact hG'
        rcases hb with hb | ⟨oo, hb⟩
        · cases kd with
          | tup => exact g2'
          | lst => have : G' b = some (.lst us) := g2'; rw [hb] at this; cases this
          | dct ks => obtain ⟨_, _, _, this⟩ := g2'; rw [hb] at this; cases this
          | ins C fs => obtain ⟨_, _, this⟩ := g2'; rw [hb] at this; cases this
          | exc _ _ _ _ => exact g2'
        · cases kd with
          | tup => exact g2'
          | lst => have : G' b = some (.lst us) := g2'; rw [hb] at this; cases this
          | dct ks => obtain ⟨_, _, _, this⟩ := g2'; rw [hb] at this; cases this
          | ins C fs => obtain ⟨_, _, this⟩ := g2'; rw [hb] at this; cases this
          | exc _ _ _ _ => exact g2'
      rcases hb with hb | ⟨oo, hb⟩
      · exact .inl (by rw [hG3 b nb]; exact hb)
      · exact .inr ⟨oo, by rw [hG3 b nb]; exact hb⟩
    cases r with
    | dat y => exact kk v as1 G2 H' (.d y) s1 c2 (x1.trans x2) (imm_keep tups _ _ q5 hi) hr
    | new kd ds' =>
      obtain ⟨b, ws, rfl, w1, w2, w3, w4⟩ := q5
      have gb : G2 b = none := by
        by_cases hb : Alive s1 as1 b
        · exact hG2 b hb
        · rw [hG3 b hb]; exact w2
      have c3 := c2.grow (kd := kd) (es := ds'.map .d) gb (c1.notin w1) (c1.h0none w1) w3 (VEs.ofReps (imm_keeps tups _ _ w4 hi))
      exact kk _ _ G2 H' (.r s1.ce.length) _ c3 ((x1.trans x2).trans ⟨pre_snoc, Same.refl _⟩) ⟨b, by rw [← c1.len, List.getElem?_append_right (Nat.le_refl _)]; simp, rfl⟩ hr
theorem fz_map {k : Nat} {x : D} (ds : List D) : (ds.map E.d).map (E.fz k x) = ds.map E.d := by
  rw [List.map_map]; rfl
theorem ints_imm {α : Type} (f : α → Int) (l : List α) (n : Int) : D.imms (l.map (fun a => .int (f a)) ++ [.int n]) = true := by
  induction l with
  | nil => rfl
  | cons a l ih => show (true && D.imms (l.map (fun a => .int (f a)) ++ [.int n])) = true; rw [ih]; rfl
/-- freezing, the state told anew -/
theorem jss_frz' {sts : List Stmt} {P : Po} {k : Nat} {kd : Kd} {es : List E} {ds : List D} {s' : S} (h1 : nth s.ce k = some (.nd kd es)) (h2 : dsOf es = some ds) (h3 : ∀ C fs, kd ≠ .ins C fs) (h4 : s.ar ≤ k) (e : s.fz k (.nd kd ds) = s') (h : JSs X F sts s' P) : JSs X F sts s P :=
  jss_frz h1 h2 h3 h4 (e ▸ h)
end DL
namespace DL
open PySem PySem.Spec PyProof.Rows L2
variable {X : Cx} {F : Fr} {s : S}
variable {e a b c : Expr} {es rest : List Expr} {Φ : E → S → Prop} {pos p p2 : Pos} {x : Str} {k B : Nat}
/-! ### a module's name for a built-in function -/
structure GlF (X : Cx) (x : Str) (id : String) : Prop where
  gl : Gl X x
  mg : X.mg x = some (.builtin id)
theorem XIs.glf {P : Program} {w : World} {K : PySem.W.Frag} {mg : Str → Option Value} {base : Heap} {N : List Str} {sc : Scope} {k : Nat} {x : Str} {id : String} (h : XIs X P w K mg base N sc k) (h1 : sc.names.lookup x = some .globalImplicit) (h2 : mg x = some (.builtin id)) : GlF X x id := ⟨h.gl h1, by rw [h.eM]; exact h2⟩
theorem je_gcd (g : GlF X x "math.gcd") (h : JE X F a s fun e1 s1 => JE X F b s1 fun e2 s2 => ∃ i j : Int, e1 = .d (.int i) ∧ e2 = .d (.int j) ∧ Φ (.d (.int (Int.gcd i j : Nat))) s2) (hdb : (x == ("__debug__" : Str)) = false := by decide)
    (ns : NoStar a := by intro _ _; rfl) (ns2 : NoStar b := by intro _ _; rfl) : JE X F (.Call (.Name x p) [a, b] [] pos) s Φ :=
  je_of (pe_callBfun cr_gcd g.gl g.mg (pa_cons (pe_sem X a) (pa_cons (pe_sem X b) pa_nil (ns2 _ _)) (ns _ _)) hdb (by rw [ns, ns2]) (by rw [ns2]; rfl)) fun as G H σ Q c k =>
    h as G H σ _ c fun v1 as1 G1 H1 e1 s1 c1 x1 ve1 h1 => h1 as1 G1 H1 σ _ c1 fun v2 as2 G2 H2 e2 s2 c2 x2 ve2 ⟨i, j, q1, q2, q⟩ => by
      subst q1 q2
      cases ve1
      cases ve2
      exact ⟨i, j, rfl, k _ as2 G2 H2 _ s2 c2 (x1.trans x2) (Rep.int _) q⟩
/-! ### operators -/
def CDivZ (_ j : Int) : Prop := j ≠ 0 ∧ j.natAbs.log2 < 9000
theorem op_fdivZ : OpR X (binaryOp .FloorDiv) (rI CDivZ fun i j => .int (i.fdiv j)) := opI fun i j _ _ _ _ _ hc q => floordiv_int hc.1 q (.inl (PyProof.noPylong_of_log2 hc.2))
theorem jr_fdivZ {i j : Int} (hc : CDivZ i j) (q : Φ (.d (.int (i.fdiv j))) s) : JR X F (binaryOp .FloorDiv) (.d (.int i)) (.d (.int j)) s Φ := jr_ii op_fdivZ hc (.int _) q
/-- pairs of ints compared -/
def rq2 (i j : Int) : D := .nd .tup [.int i, .int j]
/-- a text some times -/
def repS (z : Str) (n : Nat) : Str := ⟨(List.replicate n z.cps).foldl (· ++ ·) #[]⟩
theorem repS_len (z : Str) : ∀ n, (repS z n).length = n * z.length := by
  have key : ∀ (n : Nat) (acc : Array Nat), ((List.replicate n z.cps).foldl (· ++ ·) acc).size = acc.size + n * z.cps.size := by
    intro n
    induction n with
    | zero => intro acc; simp
    | succ n ih =>
      intro acc
      rw [List.replicate_succ, List.foldl_cons, ih, Array.size_append, Nat.add_mul]
      omega
  intro n
  show ((List.replicate n z.cps).foldl (· ++ ·) #[]).size = _
  rw [key]
  show 0 + _ = _
  rw [Nat.zero_add]; rfl
def rMulS : R2 := fun x y H Q => ∃ z n, x = .str z ∧ y = .int n ∧ z.length ≤ 1000 ∧ 0 ≤ n ∧ n ≤ 1000 ∧ Q (.str (repS z n.toNat)) H
theorem op_mulS : OpR X (binaryOp .Mult) rMulS := by
  intro pins st σ H x y v u Q I rx ry h
  obtain ⟨z, n, rfl, rfl, h1, h2, h3, q⟩ := h
  obtain ⟨t, rfl⟩ := rx
  obtain ⟨t2, rfl⟩ := ry
  have hmul : z.length * n.toNat ≤ 1000000 := Nat.le_trans (Nat.mul_le_mul h1 (show n.toNat ≤ 1000 by omega)) (by decide)
  refine PySem.P.mul_str (by simp; omega) (fun hn hz => ?_) (fun hn hz => ?_) ?_
  · have h4 : (1000 : Int) ≤ (2 ^ 63 - 1) / n := Int.le_ediv_of_mul_le (by omega) (by omega)
    omega
  · have : z.length * n.toNat ≤ sizeLine := Nat.le_trans hmul (by rw [sizeLine_eq]; decide)
    exact decide_eq_false (by omega)
  · by_cases h0 : n < 1
    · have : n = 0 := by omega
      subst this
      rw [if_pos (by decide)]
      exact ⟨by decide, ⟨.str _, H, I.tok _, ⟨_, rfl⟩, q⟩⟩
    · rw [if_neg h0]
      by_cases h5 : (n == 1 || z.length == 0) = true
      · rw [if_pos h5]
        have e : repS z n.toNat = z := by
          rcases Bool.or_eq_true_iff.mp h5 with h6 | h6
          · have : n = 1 := by simpa using h6
            subst this
            show (⟨#[] ++ z.cps⟩ : Str) = z
            rw [Array.empty_append]
          · have h7 : z.length = 0 := by simpa using h6
            have h8 := repS_len z n.toNat
            rw [h7, Nat.mul_zero] at h8
            obtain ⟨cz⟩ := z
            have a1 : cz = #[] := Array.eq_empty_of_size_eq_zero h7
            have a2 : (repS ⟨cz⟩ n.toNat).cps = #[] := Array.eq_empty_of_size_eq_zero h8
            subst a1
            exact congrArg Str.mk a2
        rw [e] at q
        exact ⟨.str z, H, I, ⟨_, rfl⟩, q⟩
      · rw [if_neg h5]
        refine ⟨?_, ⟨.str _, H, I.tok _, ⟨_, rfl⟩, q⟩⟩
        show (repS z n.toNat).length ≤ _
        rw [repS_len, Nat.mul_comm]
        exact Nat.le_trans hmul (by rw [sizeLine_eq]; decide)
theorem jr_mulS {z : Str} {n : Int} (h1 : z.length ≤ 1000) (h2 : 0 ≤ n ∧ n ≤ 1000) (q : Φ (.d (.str (repS z n.toNat))) s) : JR X F (binaryOp .Mult) (.d (.str z)) (.d (.int n)) s Φ :=
  jr_of op_mulS fun as G H σ x y Q c v1 v2 k => by
    cases v1
    cases v2
    exact ⟨z, n, rfl, rfl, h1, h2.1, h2.2, k _ as G H _ s c (Ext.refl _ _) (Rep.str _) q⟩
/-! ### list(x), dict(x): new, frozen -/
theorem je_listD (g : GlB X "list") (h : JE X F a s fun e s1 => ∃ kd ds, s1.node e = some (kd, ds.map .d) ∧ (kd = .lst ∨ kd = .tup) ∧ Φ (.d (.nd .lst ds)) s1) (ns : NoStar a := by intro _ _; rfl) : JE X F (.Call (.Name "list" p) [a] [] pos) s Φ :=
  je_new (kd := .lst) (jn_listS g (h.mono fun e s1 ⟨kd, ds, h1, h2, h3⟩ => ⟨kd, _, h1, h2, rfl, ds, dsOf_map ds, h3⟩) ns) (.inr rfl)
theorem je_tupleD (g : GlB X "tuple") (h : JE X F a s fun e s1 => ∃ ds, s1.node e = some (.lst, ds.map .d) ∧ Φ (.d (.nd .tup ds)) s1) (ns : NoStar a := by intro _ _; rfl) : JE X F (.Call (.Name "tuple" p) [a] [] pos) s Φ :=
  je_new (kd := .tup) (jn_tupleL g (h.mono fun e s1 ⟨ds, h1, h3⟩ => ⟨_, h1, rfl, ds, dsOf_map ds, h3⟩) ns) (.inl rfl)
theorem je_dictD (g : GlB X "dict") (h : JE X F a s fun e s1 => ∃ ks ds, s1.node e = some (.dct ks, ds.map .d) ∧ Φ (.d (.nd (.dct ks) ds)) s1) (ns : NoStar a := by intro _ _; rfl) : JE X F (.Call (.Name "dict" p) [a] [] pos) s Φ := fun as G H σ Q c k =>
  sem_lock (PE.sem (pe_callTy call_dictD g.gl g.mg PyProof.Rows.boot_dict (pa_cons (pe_sem X a) pa_nil (ns _ _)) (he := ns _ _)) (h as G H σ _ c fun v as1 G1 H1 e1 s1 c1 x1 ve ⟨ks, ds, h1, h2⟩ => by
    obtain ⟨d, vs, rfl, ⟨n1, n2, od, n3⟩, ves⟩ := c1.node ve h1
    refine ⟨d, _, rfl, .inr ⟨od, n3⟩, fun q hq => ⟨q, _, upd_same, trivial, fun od' => ?_⟩⟩
    rw [upd_upd]
    have sg : Same G1 (upd G1 q (.frz od' (.dK (ks.zip vs)))) := same_new (c1.gnone hq)
    exact k _ as1 _ _ (.d (.nd (.dct ks) ds)) s1 (c1.addG hq) (x1.trans ⟨List.prefix_refl _, sg⟩) (.nd ⟨n1, n2, od', upd_same⟩ (ves.reps.mono sg)) h2))
/-- d.get(k, x) -/
theorem je_get2 {o : Expr} {apos : Pos} (bx : Bx X B) (h : JE X F o s fun eo s1 => (∃ kd0 es0, s1.node eo = some (.dct kd0, es0)) ∧ JE X F a s1 fun e1 s2 => JE X F b s2 fun e2 s3 => ∃ ks es kk, s3.node eo = some (.dct ks, es) ∧ keyE e1 = some kk ∧ Φ ((lk (ks.zip es) kk).getD e2) s3) (m : M2 X o "get" apos a b pos) :
    JE X F (.Call (.Attribute o "get" apos) [a, b] [] pos) s Φ :=
  je_of (pe_dget2 bx.hu (pe_sem X o) (pe_sem X a) (pe_sem X b) m) fun as G H σ Q c k => h as G H σ _ c fun v as1 G1 H1 eo s1 c1 x1 ve ⟨⟨kd0, es0, hn⟩, h1⟩ => by
    obtain ⟨d, vs0, rfl, ⟨m1, m2, od0, m3⟩, _⟩ := c1.node ve hn
    refine ⟨d, rfl, .inl ⟨_, .inr ⟨od0, m3⟩⟩, h1 as1 G1 H1 σ _ c1 fun v2 as2 G2 H2 e1 s2 c2 x2 ve2 h2 => h2 as2 G2 H2 σ _ c2 fun v3 as3 G3 H3 e2 s3 c3 x3 ve3 ⟨ks, es, kk, q1, q2, q3⟩ => ?_⟩
    obtain ⟨d', vs, e', ⟨n1, n2, od, n3⟩, ves⟩ := c3.node ((x2.trans x3).ve ve) q1
    cases e'
    obtain rfl := keyE_v q2 ve2
    refine ⟨_, .inl ⟨_, kk, .inr ⟨od, n3⟩, rfl, rfl⟩, ?_⟩
    obtain ⟨w1, w2⟩ := lk_val (k := kk) (ks := ks) ves
    cases hl : lk (ks.zip es) kk with
    | none =>
      rw [w2 hl]
      rw [hl] at q3
      exact k v3 as3 G3 H3 e2 s3 c3 ((x1.trans x2).trans x3) ve3 q3
    | some e' =>
      obtain ⟨v', h1, h2⟩ := w1 e' hl
      rw [h1]
      rw [hl] at q3
      exact k v' as3 G3 H3 e' s3 c3 ((x1.trans x2).trans x3) h2 q3
/-- d.clear(), d a name of an owned dict -/
theorem mt_clearZ : MtR X "dict.clear" (fun x vs H Q => ∃ (a : Addr) (od : Obj) (kvs : List (Key × V)), x = .ref a ∧ vs = [] ∧ H a = some (.frz od (.dK kvs)) ∧ (∀ o' u', X.H_0 a ≠ some (.frz o' u')) ∧ ∀ od', Q .non (upd H a (.frz od' (.dK [])))) := by
  intro pins st σ H x vs v us Q I rx rv h
  obtain ⟨a, od, kvs, rfl, rfl, ha, hn, q⟩ := h
  have I1 := I.unlock ha hn
  refine thn (mtd_clear pins st σ _ (.ref a) [] v us (fun y H' => y = .non ∧ H' = upd (upd H a (.dK kvs)) a (.dK [])) I1 rx rv ⟨a, kvs, rfl, rfl, upd_same, rfl, rfl⟩) fun y s' ⟨z, H', I2, rz, e1, e2⟩ => ?_
  subst e1 e2
  rw [upd_upd] at I2
  obtain ⟨od', I3⟩ := I2.lock (d := a) upd_same trivial
  rw [upd_upd] at I3
  exact ⟨.non, _, I3, rz, q od'⟩
theorem je_clear {i : Nat} {apos np : Pos} {ks : List Key} {es : List E} {j : Nat} (hH : X.H_0 = F.H0) (n : NmR X i x) (h1 : nth s.sl i = some (some (.r j))) (h2 : nth s.ce j = some (.nd (.dct ks) es)) (h3 : s.ar ≤ j) (q : Φ (.d .non) (s.put j (.dct []) []))
    (hbase : attributeBase (.Name x np) "clear" X.env (eval (.Name x np) X.env) = eval (.Name x np) X.env := by rfl) (hline : (apos.endLine == pos.line) = true := by rfl) : JE X F (.Call (.Attribute (.Name x np) "clear" apos) [] [] pos) s Φ := fun as G H σ Q c k => by
  rw [nth_eq] at h1 h2
  obtain ⟨v, g1, g2⟩ := c.slots i _ h1
  obtain ⟨a, ha, rfl⟩ := g2
  obtain ⟨a', vs, w1, ⟨w2, w3, od, w4⟩, w5⟩ := c.cells j _ _ h2
  rw [ha] at w1
  cases w1
  have nA : a ∉ F.A0 := fun z => by
    obtain ⟨l, hl⟩ := List.getElem?_of_mem z
    have q := pre_get c.pre hl
    obtain ⟨l1, e1⟩ := List.getElem?_eq_some_iff.mp q
    obtain ⟨l2, e2⟩ := List.getElem?_eq_some_iff.mp ha
    have := (List.getElem_inj c.nd).mp (e1.trans e2.symm)
    have l3 := (List.getElem?_eq_some_iff.mp hl).1
    rw [c.har] at l3
    omega
  have h0 : F.H0 a = none := (c.fresh a (List.mem_of_getElem? ha)).resolve_left nA
  have hn : ∀ o' u', X.H_0 a ≠ some (.frz o' u') := fun o' u' z => by rw [hH, h0] at z; cases z
  intro pins st I
  have I1 := I.unlock w4 hn
  refine thn ((pe_dclear (pe_var n.nm n.vis n.dbg n.cdt) hbase hline).run pins st σ _ (fun y H' => y = .non ∧ H' = upd (upd H a (.dK (ks.zip vs))) a (.dK [])) I1 ⟨_, g1, .inr (.inr (.inl ⟨rfl, .inl ⟨_, upd_same⟩⟩)), a, _, rfl, rfl, upd_same, rfl, rfl⟩) fun y s' ⟨z, H', I2, rz, e1, e2⟩ => ?_
  subst e1 e2
  rw [upd_upd] at I2
  obtain ⟨od', I3⟩ := I2.lock (d := a) upd_same trivial
  rw [upd_upd] at I3
  exact ⟨.non, _, I3, rz, k .non as G _ (.d .non) _ (c.put (kd := .dct []) (es := []) (vs := []) h2 ha ⟨rfl, List.nodup_nil, od', upd_same⟩ .nil) (Ext.refl _ _) Rep.non q⟩
end DL
namespace DL
open PySem PySem.Spec PyProof.Rows L2
/-! ### defs that own cells: any of the arguments, cells that refer to cells -/
def E.ren (f : Nat → Nat) : E → E
  | .d x => .d x
  | .r k => .r (f k)
def Cell.ren (f : Nat → Nat) : Cell → Cell
  | .gone => .gone
  | .nd kd es => .nd kd (es.map (E.ren f))
theorem ren_map (f : Nat → Nat) (ds : List D) : (ds.map E.d).map (E.ren f) = ds.map E.d := by rw [List.map_map]; rfl
/-- what is owned -/
structure Ow (K : PySem.W.Frag) (as : List Addr) (G H : Hp) (ce : List Cell) : Prop where
  len : as.length = ce.length
  nd : as.Nodup
  own : ∀ (k : Nat) (a : Addr) (kd : Kd) (es : List E), as[k]? = some a → ce[k]? = some (.nd kd es) → G a = none
  there : ∀ a ∈ as, H a ≠ none
  cells : ∀ (k : Nat) (kd : Kd) (es : List E), ce[k]? = some (.nd kd es) → ∃ a vs, as[k]? = some a ∧ CellAt H a vs kd ∧ VEs K G as vs es
abbrev RS := List Cell → List E → (E → List Cell → Prop) → Prop
def spS (K : PySem.W.Frag) (R : RS) : Sp := fun vs H Q _ => ∃ as ce es G, Same G H ∧ Ow K as G H ce ∧ VEs K G as vs es ∧
  R ce es fun e ce' => ∀ v as' G' H', as <+: as' → (∀ a ∈ as', a ∈ as ∨ H a = none) → (∀ b o, b ∉ as → H b = some o → H' b = some o) → Same G G' → Same G' H' → (∀ b, G b = none → H b ≠ none → G' b = none) → Ow K as' G' H' ce' → VE K G' as' v e → Q v H'
def MonoS (R : RS) : Prop := ∀ ce es p q, (∀ e c, p e c → q e c) → R ce es p → R ce es q
structure CaS (P : Program) (w : World) (K : PySem.W.Frag) (mg : Str → Option Value) (base : Heap) (x : Str) (k : Nat) (R : RS) : Prop where
  mono : MonoS R
  ex : ∃ f fd ps, mg x = some (.ref f) ∧ PySem.W.keepIn K (.ref f) = true ∧ Binds K fd ps [] ∧ FnOk P w K mg base CX0 k f fd ps (spS K R)
structure CbS (X : Cx) (x : Str) (k : Nat) (R : RS) : Prop where
  gl : Gl X x
  mono : MonoS R
  ex : ∃ f fd ps, X.mg x = some (.ref f) ∧ PySem.W.keepIn X.K (.ref f) = true ∧ Binds X.K fd ps [] ∧ FnOk X.prog X.w X.K X.mg X.base CX0 k f fd ps (spS X.K R)
theorem CaS.at {X : Cx} {P : Program} {w : World} {K : PySem.W.Frag} {mg : Str → Option Value} {base : Heap} {N : List Str} {sc : Scope} {k j : Nat} {x : Str} {R : RS} (c : CaS P w K mg base x j R) (h : XIs X P w K mg base N sc k)
    (h1 : sc.names.lookup x = some .globalImplicit) : CbS X x j R := by
  obtain ⟨e1, e2, e3, e4, e5, _⟩ := id h
  subst e1 e2 e3 e4 e5
  exact ⟨h.gl h1, c.mono, c.ex⟩
theorem Cz.ow {X : Cx} {F : Fr} {s : S} {as : List Addr} {G H : Hp} {σ : L2.St} (c : Cz X F as G H σ s) : Ow X.K as G H s.ce := ⟨c.len, c.nd, c.own, c.there, c.cells⟩
section
variable {P : Program} {w : World} {K : PySem.W.Frag} {mg : Str → Option Value} {base : Heap} {x qual : Str} {st : Stmt} {f : Addr} {fd : FuncData} {N ps : List Str} {k : Nat}
theorem fn_S {R : RS} (F : Fun K x qual st f fd) (S : FnScope N ps (defScope st)) (hlen : ∀ ce es post, R ce es post → es.length = ps.length)
    (body : ∀ (X : Cx) (F : Fr) (ce : List Cell) (es : List E) (post : E → List Cell → Prop), XIs X P w K mg base N (defScope st) k → (∀ y, X.fn y = true) → X.H_0 = F.H0 → R ce es post → JSs X F (defBody st) (entry N es ce ce.length)
      { nx := fun s => post (.d .non) s.ce, rt := fun e s => post e s.ce }) :
    FnOk P w K mg base CX0 (k + 1) f fd ps (spS K R) := by
  refine F.ok S (fun vs H Q E h => ?_) fun cdv A outer s H vs Q Ex hr h => ?_
  · obtain ⟨as, ce, es, G, _, _, ve, hR⟩ := h
    rw [Paired.length ve]; exact hlen ce es _ hR
  · obtain ⟨as, ce, es, G, sg, ow, ve, hR⟩ := h
    refine ⟨_, pss_sem _ _, ?_⟩
    refine body _ ⟨G, H, as⟩ ce es _ ⟨rfl, rfl, rfl, rfl, rfl, rfl, rfl, rfl, S.nd, PassesOwn.never, hr⟩ (fun _ => rfl) rfl hR as G H _ _ ?_ ?_
    · refine ⟨sg, Same.refl _, fun _ h _ => h, fun _ _ h _ => h, ow.len, List.prefix_refl _, ow.nd, ow.own, fun a h => .inl h, ow.there, ow.cells, fun i e h => slots_entry ve N h, ?_, ow.len⟩
      show (es.map some ++ List.replicate (N.length - es.length) none).length = (L2.start N vs).length
      unfold L2.start
      simp [Paired.length ve]
    · have fin : ∀ {as' : List Addr} {G' H' : Hp} {σ' : L2.St} {s' : DL.S}, Cz (cxOf CX0 P w K mg base N qual (defScope st) f cdv A outer s H Ex).nox ⟨G, H, as⟩ as' G' H' σ' s' → ∀ b o, b ∉ as → H b = some o → H' b = some o := fun {as' G' H' σ' s'} c b o hb q => c.frame b o q hb
      exact ⟨fun as' G' H' σ' s' c x q => q .non as' G' H' c.pre c.fresh (fin c) c.base c.sub c.new c.ow .non, fun v as' G' H' σ' e' s' c x ve q => q v as' G' H' c.pre c.fresh (fin c) c.base c.sub c.new c.ow ve, fun _ _ _ _ _ _ _ q => q.elim, fun _ _ _ _ _ _ _ q => q.elim⟩
end
/-! the call -/
def jsF (js : List Nat) (len : Nat) (i : Nat) : Nat := match nth js i with
  | some j => j
  | none => len + (i - js.length)
def setMany : List Cell → List Nat → List Cell → List Cell
  | ce, [], _ => ce
  | ce, _ :: _, [] => ce
  | ce, j :: js, c :: cs => setMany (setN ce j c) js cs
termination_by structural _ js => js
theorem setMany_len : ∀ (js : List Nat) (ce cs : List Cell), (setMany ce js cs).length = ce.length
  | [], _, _ => rfl
  | _ :: _, _, [] => rfl
  | j :: js, ce, c :: cs => by unfold setMany; rw [setMany_len js, setN_eq, List.length_set]
theorem setMany_out : ∀ {js : List Nat} {ce cs : List Cell} {k : Nat}, k ∉ js → (setMany ce js cs)[k]? = ce[k]?
  | [], _, _, _, _ => rfl
  | _ :: _, _, [], _, _ => rfl
  | j :: js, ce, c :: cs, k, h => by
    simp only [List.mem_cons, not_or] at h
    unfold setMany
    rw [setMany_out h.2, setN_eq, List.getElem?_set_ne (fun z => h.1 z.symm)]
theorem setMany_in : ∀ {js : List Nat} {ce cs : List Cell} {i j : Nat} {c : Cell}, js.Nodup → (∀ j ∈ js, j < ce.length) → js[i]? = some j → cs[i]? = some c → (setMany ce js cs)[j]? = some c
  | [], _, _, _, _, _, _, _, h, _ => by simp at h
  | _ :: _, _, [], _, _, _, _, _, _, h => by simp at h
  | j0 :: js, ce, c0 :: cs, 0, j, c, hn, hb, h1, h2 => by
    simp at h1 h2
    subst h1 h2
    unfold setMany
    rw [setMany_out (List.nodup_cons.mp hn).1, setN_eq, List.getElem?_set_self (hb _ List.mem_cons_self)]
  | j0 :: js, ce, c0 :: cs, i + 1, j, c, hn, hb, h1, h2 => by
    simp at h1 h2
    unfold setMany
    exact setMany_in (List.nodup_cons.mp hn).2 (fun j hj => by rw [setN_eq, List.length_set]; exact hb j (List.mem_cons_of_mem _ hj)) h1 h2
def S.back (s : S) (js : List Nat) (ce : List Cell) : S := ⟨s.sl, setMany s.ce js ((ce.take js.length).map (Cell.ren (jsF js s.ce.length))) ++ (ce.drop js.length).map (Cell.ren (jsF js s.ce.length)), s.ar⟩
/-- the cells that go along, told in the callee's numbers -/
def Goes (s : S) (js : List Nat) (ce : List Cell) : Prop := js.Nodup ∧ (∀ j ∈ js, j < s.ce.length) ∧ js.length = ce.length ∧ (∀ (i j : Nat) (c : Cell), js[i]? = some j → ce[i]? = some c → s.ce[j]? = some (c.ren (jsF js s.ce.length))) ∧ ce.all (Cell.ltB ce.length) = true
variable {X : Cx} {F : Fr} {s : S}
theorem jsF_in {js : List Nat} {len i : Nat} (h : i < js.length) : js[i]? = some (jsF js len i) := by
  unfold jsF
  rw [nth_eq, List.getElem?_eq_getElem h]
theorem jsF_out {js : List Nat} {len i : Nat} (h : ¬ i < js.length) : jsF js len i = len + (i - js.length) := by
  unfold jsF
  rw [nth_eq, List.getElem?_eq_none (by omega)]
/-- the callee's addresses -/
def subA (as : List Addr) (js : List Nat) : List Addr := js.map fun j => as.getD j 0
theorem subA_get {as : List Addr} {js : List Nat} {i j : Nat} (hj : js[i]? = some j) (hb : j < as.length) : (subA as js)[i]? = as[j]? := by
  unfold subA
  rw [List.getElem?_map, hj, List.getElem?_eq_getElem hb]
  simp [List.getD, List.getElem?_eq_getElem hb]
theorem ve_in {K : PySem.W.Frag} {G : Hp} {as : List Addr} {js : List Nat} {len : Nat} {v : V} (hb : ∀ j ∈ js, j < as.length) : ∀ {e : E}, e.lt js.length = true → VE K G as v (e.ren (jsF js len)) → VE K G (subA as js) v e
  | .d _, _, h => h
  | .r i, hl, ⟨a, h1, h2⟩ => by
    have hi : i < js.length := by simpa [E.lt] using hl
    have hj := jsF_in (len := len) hi
    exact ⟨a, by rw [subA_get hj (hb _ (List.mem_of_getElem? hj))]; exact h1, h2⟩
theorem ves_in {K : PySem.W.Frag} {G : Hp} {as : List Addr} {js : List Nat} {len : Nat} (hb : ∀ j ∈ js, j < as.length) : ∀ {es : List E} {vs : List V}, es.all (E.lt js.length) = true → VEs K G as vs (es.map (E.ren (jsF js len))) → VEs K G (subA as js) vs es
  | [], _, _, .nil => .nil
  | e :: es, _, hl, .cons h t => by
    rw [List.all_cons, Bool.and_eq_true] at hl
    exact .cons (ve_in hb hl.1 h) (ves_in hb hl.2 t)
/-- behind the call -/
theorem ve_out {K : PySem.W.Frag} {G : Hp} {as as' : List Addr} {js : List Nat} {v : V} (hb : ∀ j ∈ js, j < as.length) (hp : subA as js <+: as') : ∀ {e : E}, VE K G as' v e → VE K G (as ++ as'.drop js.length) v (e.ren (jsF js as.length))
  | .d _, h => h
  | .r i, ⟨a, h1, h2⟩ => by
    refine ⟨a, ?_, h2⟩
    have hsl : (subA as js).length = js.length := List.length_map _
    by_cases hi : i < js.length
    · have hj := jsF_in (len := as.length) hi
      have hjb := hb _ (List.mem_of_getElem? hj)
      rw [List.getElem?_append_left hjb, ← subA_get hj hjb]
      obtain ⟨t, rfl⟩ := hp
      rw [List.getElem?_append_left (by omega)] at h1
      exact h1
    · rw [jsF_out hi, List.getElem?_append_right (by omega), List.getElem?_drop]
      have : js.length + (as.length + (i - js.length) - as.length) = i := by omega
      rw [this]
      exact h1
theorem ves_out {K : PySem.W.Frag} {G : Hp} {as as' : List Addr} {js : List Nat} (hb : ∀ j ∈ js, j < as.length) (hp : subA as js <+: as') : ∀ {es : List E} {vs : List V}, VEs K G as' vs es → VEs K G (as ++ as'.drop js.length) vs (es.map (E.ren (jsF js as.length)))
  | [], _, .nil => .nil
  | _ :: _, _, .cons h t => .cons (ve_out hb hp h) (ves_out hb hp t)
theorem subA_nd {as : List Addr} (nd : as.Nodup) : ∀ {js : List Nat}, js.Nodup → (∀ j ∈ js, j < as.length) → (subA as js).Nodup
  | [], _, _ => List.nodup_nil
  | j :: js, h, hb => by
    have ih := subA_nd nd (List.nodup_cons.mp h).2 fun j hj => hb j (List.mem_cons_of_mem _ hj)
    show (as.getD j 0 :: subA as js).Nodup
    rw [List.nodup_cons]
    refine ⟨fun z => ?_, ih⟩
    obtain ⟨l, hl, e⟩ := List.mem_map.mp z
    have b1 := hb j List.mem_cons_self
    have b2 := hb l (List.mem_cons_of_mem _ hl)
    simp only [List.getD, List.getElem?_eq_getElem b1, List.getElem?_eq_getElem b2, Option.getD_some] at e
    have := (List.getElem_inj nd).mp e
    subst this
    exact (List.nodup_cons.mp h).1 hl
theorem subA_mem {as : List Addr} {js : List Nat} {a : Addr} (hb : ∀ j ∈ js, j < as.length) (h : a ∈ subA as js) : ∃ i j : Nat, js[i]? = some j ∧ as[j]? = some a := by
  obtain ⟨j, hj, e⟩ := List.mem_map.mp h
  obtain ⟨i, hi⟩ := List.getElem?_of_mem hj
  refine ⟨i, j, hi, ?_⟩
  have b := hb j hj
  rw [List.getElem?_eq_getElem b]
  simp only [List.getD, List.getElem?_eq_getElem b, Option.getD_some] at e
  rw [e]
theorem ltB_cell {n : Nat} {ce : List Cell} (h : ce.all (Cell.ltB n) = true) {k : Nat} {kd : Kd} {es : List E} (q : ce[k]? = some (.nd kd es)) : es.all (E.lt n) = true :=
  List.all_eq_true.mp h _ (List.mem_of_getElem? q)
theorem Cz.goes {as : List Addr} {G H : Hp} {σ : L2.St} {js : List Nat} {ce : List Cell} (c : Cz X F as G H σ s) (g : Goes s js ce) : Ow X.K (subA as js) G H ce := by
  obtain ⟨g1, g2, g3, g4, g5⟩ := g
  have hb : ∀ j ∈ js, j < as.length := fun j hj => by rw [c.len]; exact g2 j hj
  have hjs : ∀ {k : Nat} {cl : Cell}, ce[k]? = some cl → js[k]? = some (jsF js s.ce.length k) ∧ jsF js s.ce.length k < as.length := fun {k cl} h => by
    have hk : k < js.length := by rw [g3]; exact (List.getElem?_eq_some_iff.mp h).1
    have := jsF_in (len := s.ce.length) hk
    exact ⟨this, hb _ (List.mem_of_getElem? this)⟩
  refine ⟨by unfold subA; rw [List.length_map, g3], subA_nd c.nd g1 hb, fun k a kd es h1 h2 => ?_, fun a ha => ?_, fun k kd es h => ?_⟩
  · obtain ⟨e1, e2⟩ := hjs h2
    rw [subA_get e1 e2] at h1
    have := g4 _ _ _ e1 h2
    exact c.own _ a kd _ h1 this
  · obtain ⟨i, j, _, h⟩ := subA_mem hb ha
    exact c.there a (List.mem_of_getElem? h)
  · obtain ⟨e1, e2⟩ := hjs h
    obtain ⟨a, vs, w1, w2, w3⟩ := c.cells _ kd _ (g4 _ _ _ e1 h)
    refine ⟨a, vs, by rw [subA_get e1 e2]; exact w1, w2, ves_in hb ?_ w3⟩
    rw [g3]
    exact ltB_cell g5 h
theorem Cz.ret {as as' : List Addr} {G H G' H' : Hp} {σ : L2.St} {js : List Nat} {ce ce' : List Cell} (c : Cz X F as G H σ s) (g : Goes s js ce) (h1 : subA as js <+: as') (h2 : ∀ a ∈ as', a ∈ subA as js ∨ H a = none) (h3 : ∀ b o, b ∉ subA as js → H b = some o → H' b = some o)
    (h4 : Same G G') (h5 : Same G' H') (h6 : ∀ b, G b = none → H b ≠ none → G' b = none) (ow : Ow X.K as' G' H' ce') : Cz X F (as ++ as'.drop js.length) G' H' σ (s.back js ce') := by
  obtain ⟨g1, g2, g3, g4, g5⟩ := g
  have hb : ∀ j ∈ js, j < as.length := fun j hj => by rw [c.len]; exact g2 j hj
  have hsl : (subA as js).length = js.length := List.length_map _
  have hle : js.length ≤ as'.length := by rw [← hsl]; exact h1.length_le
  have hsub : ∀ a ∈ subA as js, a ∈ as := fun a ha => by
    obtain ⟨i, j, _, h⟩ := subA_mem hb ha
    exact List.mem_of_getElem? h
  have as'i : ∀ {i : Nat}, i < js.length → as'[i]? = (subA as js)[i]? := fun {i} hi => by
    obtain ⟨t, rfl⟩ := h1
    rw [List.getElem?_append_left (by omega)]
  -- the new ones
  have hnew : ∀ a ∈ as'.drop js.length, H a = none := fun a ha => by
    refine (h2 a (List.mem_of_mem_drop ha)).resolve_left fun z => ?_
    obtain ⟨l, hl⟩ := List.getElem?_of_mem ha
    rw [List.getElem?_drop] at hl
    obtain ⟨i, hi⟩ := List.getElem?_of_mem z
    have hi2 : i < js.length := by rw [← hsl]; exact (List.getElem?_eq_some_iff.mp hi).1
    rw [← as'i hi2] at hi
    have := nodup_get ow.nd hi hl
    omega
  have cel : ∀ {k : Nat} {cl : Cell}, (s.back js ce').ce[k]? = some cl → (k < as.length ∧ k ∉ js ∧ s.ce[k]? = some cl) ∨ ∃ (i : Nat) (c0 : Cell), ce'[i]? = some c0 ∧ cl = c0.ren (jsF js s.ce.length) ∧ (as ++ as'.drop js.length)[k]? = as'[i]? := fun {k cl} q => by
    have q : (setMany s.ce js ((ce'.take js.length).map (Cell.ren (jsF js s.ce.length))) ++ (ce'.drop js.length).map (Cell.ren (jsF js s.ce.length)))[k]? = some cl := q
    have hsm : (setMany s.ce js ((ce'.take js.length).map (Cell.ren (jsF js s.ce.length)))).length = as.length := by rw [setMany_len, c.len]
    by_cases hk : k < as.length
    · rw [List.getElem?_append_left (by omega)] at q
      by_cases hj : k ∈ js
      · obtain ⟨i, hi⟩ := List.getElem?_of_mem hj
        have hi2 : i < js.length := (List.getElem?_eq_some_iff.mp hi).1
        have hi3 : i < ce'.length := by rw [← ow.len]; omega
        have e1 : ((ce'.take js.length).map (Cell.ren (jsF js s.ce.length)))[i]? = some (ce'[i].ren (jsF js s.ce.length)) := by
          rw [List.getElem?_map, List.getElem?_take_of_lt hi2, List.getElem?_eq_getElem hi3]; rfl
        rw [setMany_in g1 g2 hi e1] at q
        cases q
        refine .inr ⟨i, ce'[i], List.getElem?_eq_getElem hi3, rfl, ?_⟩
        rw [List.getElem?_append_left hk, as'i hi2, subA_get hi hk]
      · rw [setMany_out hj] at q
        exact .inl ⟨hk, hj, q⟩
    · rw [List.getElem?_append_right (by omega), hsm, List.getElem?_map, List.getElem?_drop] at q
      cases e : ce'[js.length + (k - as.length)]? with
      | none => rw [e] at q; cases q
      | some c0 =>
        rw [e] at q
        cases q
        exact .inr ⟨_, c0, e, rfl, by rw [List.getElem?_append_right (by omega), List.getElem?_drop]⟩
  have nd2 : (as ++ as'.drop js.length).Nodup := by
    rw [List.nodup_append]
    exact ⟨c.nd, ow.nd.sublist (List.drop_sublist _ _), fun a ha b hb e => c.there a ha (by rw [e]; exact hnew b hb)⟩
  have addr : ∀ {a : Addr}, a ∈ as → a ∉ subA as js → ∀ o, H a = some o → H' a = some o := fun {a} _ hn o ho => h3 a o hn ho
  refine ⟨h5, c.base.trans h4, fun b q1 q2 => ?_, fun b o q1 q2 => ?_, ?_, c.pre.trans ⟨_, rfl⟩, nd2, fun k a kd es q1 q2 => ?_, fun a ha => ?_, fun a ha => ?_, fun k kd es q => ?_, fun i e q => ?_, c.slen, c.har⟩
  · refine h6 b (c.new b q1 q2) fun z => ?_
    cases q : F.H0 b with
    | none => exact q2 q
    | some o =>
      by_cases hA : b ∈ F.A0
      · exact c.there b (c.pre.subset hA) z
      · have := c.frame b o q hA
        rw [z] at this; cases this
  · refine h3 b o (fun z => ?_) (c.frame b o q1 q2)
    rcases c.fresh b (hsub b z) with w | w
    · exact q2 w
    · rw [w] at q1; cases q1
  · show _ = (setMany s.ce js _ ++ _).length
    rw [List.length_append, List.length_append, setMany_len, List.length_map, List.length_drop, List.length_drop, c.len, ow.len]
  · rcases cel q2 with ⟨hk, _, q3⟩ | ⟨i, c0, q3, q4, q5⟩
    · rw [List.getElem?_append_left hk] at q1
      exact h6 a (c.own k a kd es q1 q3) (c.there a (List.mem_of_getElem? q1))
    · rw [q5] at q1
      cases c0 with
      | gone => cases q4
      | nd kd0 es0 => exact ow.own i a kd0 es0 q1 q3
  · rcases List.mem_append.mp ha with ha | ha
    · exact c.fresh a ha
    · exact .inr (c.h0none (hnew a ha))
  · rcases List.mem_append.mp ha with ha | ha
    · by_cases hm : a ∈ subA as js
      · exact ow.there a (h1.subset hm)
      · cases q : H a with
        | none => exact absurd q (c.there a ha)
        | some o => rw [h3 a o hm q]; exact fun z => nomatch z
    · exact ow.there a (List.mem_of_mem_drop ha)
  · rcases cel q with ⟨hk, hj, q3⟩ | ⟨i, c0, q3, q4, q5⟩
    · obtain ⟨a, vs, w1, w2, w3⟩ := c.cells k kd es q3
      refine ⟨a, vs, by rw [List.getElem?_append_left hk]; exact w1, w2.keep fun o ho => h3 a o (fun z => ?_) ho, w3.mono ⟨_, rfl⟩ h4⟩
      obtain ⟨i, j, z1, z2⟩ := subA_mem hb z
      have := nodup_get c.nd w1 z2
      subst this
      exact hj (List.mem_of_getElem? z1)
    · cases c0 with
      | gone => cases q4
      | nd kd0 es0 =>
        cases q4
        obtain ⟨a, vs, w1, w2, w3⟩ := ow.cells i kd es0 q3
        rw [← c.len]
        exact ⟨a, vs, by rw [q5]; exact w1, w2, ves_out hb h1 w3⟩
  · obtain ⟨v, w1, w2⟩ := c.slots i e q
    exact ⟨v, w1, w2.mono ⟨_, rfl⟩ h4⟩
/-- f(..): js the cells that go along -/
theorem je_callS {a : Expr} {es : List Expr} {Φ : E → S → Prop} {pos p : Pos} {x : Str} {k B : Nat} {R : RS} (cb : CbS X x k R) (bx : Bx X B) (hB : k ≤ B)
    (h : JA X F (a :: es) s fun vs s1 => ∃ js ce es0, Goes s1 js ce ∧ vs = es0.map (E.ren (jsF js s1.ce.length)) ∧ es0.all (E.lt js.length) = true ∧ R ce es0 fun e ce' => Φ (e.ren (jsF js s1.ce.length)) (s1.back js ce')) (hdb : (x == ("__debug__" : Str)) = false := by decide)
    (he : starEach (a :: es) X.env = (false, eval a X.env) :: starEach es X.env := by rfl) (hpl : (backTo pos (starEach es X.env)).any (·.1) = false := by rfl) : JE X F (.Call (.Name x p) (a :: es) [] pos) s Φ := by
  obtain ⟨f, fd, ps, h1, h2, h3, h4⟩ := cb.ex
  refine je_of (pe_call h4 (bx.room.mono hB) cb.gl h1 h2 h3 .nil pass0 (pa_sem X _) hdb he hpl) fun as G H σ Q c kk => h as G H σ _ c fun vs as1 G1 H1 es1 s1 c1 x1 ves ⟨js, ce, es0, g, q1, q2, hR⟩ => ?_
  rw [List.append_nil]
  subst q1
  have hb : ∀ j ∈ js, j < as1.length := fun j hj => by rw [c1.len]; exact g.2.1 j hj
  refine ⟨subA as1 js, ce, es0, G1, c1.sub, c1.goes g, ves_in hb q2 ves, cb.mono ce es0 _ _ (fun e ce' hr v as' G' H' w1 w2 w3 w4 w5 w6 ow ve => ?_) hR⟩
  have c2 := c1.ret g w1 w2 w3 w4 w5 w6 ow
  have ve2 := ve_out hb w1 ve
  rw [c1.len] at ve2
  exact kk v _ G' H' _ _ c2 (x1.trans ⟨⟨_, rfl⟩, w4⟩) ve2 hr
end DL
namespace DL
open PySem PySem.Spec PyProof.Rows L2
/-! ### defs whose first arguments are owned, their members frozen -/
abbrev RCs := List (Kd × List D) → List D → (Rt → List (Kd × List D) → Prop) → Prop
def ceOf (os : List (Kd × List D)) : List Cell := os.map fun o => Cell.nd o.1 (o.2.map E.d)
def rPost (n : Nat) (post : E → List Cell → Prop) (r : Rt) (os' : List (Kd × List D)) : Prop := os'.length = n → match r with
  | .dat x => post (.d x) (ceOf os')
  | .new kd ds => post (.r n) (ceOf os' ++ [.nd kd (ds.map .d)])
def RSn (R : RCs) : RS := fun ce es post => ∃ os ds, ce = ceOf os ∧ es = (List.range os.length).map E.r ++ ds.map E.d ∧ R os ds (rPost os.length post)
def MonoN (R : RCs) : Prop := ∀ os ds p q, (∀ r c, p r c → q r c) → R os ds p → R os ds q
theorem MonoN.s {R : RCs} (m : MonoN R) : MonoS (RSn R) := fun ce es p q h ⟨os, ds, e1, e2, hR⟩ => ⟨os, ds, e1, e2, m os ds _ _ (fun r c z hl => by
  have z := z hl
  cases r with
  | dat x => exact h _ _ z
  | new kd d2 => exact h _ _ z) hR⟩
/-- what stands in the first cells -/
def Owns (s : S) : Nat → List (Kd × List D) → Prop
  | _, [] => True
  | i, o :: r => (∃ es, nth s.ce i = some (.nd o.1 es) ∧ dsOf es = some o.2) ∧ Owns s (i + 1) r
theorem Owns.get {s : S} : ∀ {os : List (Kd × List D)} {i k : Nat} {o : Kd × List D}, Owns s i os → os[k]? = some o → s.ce[i + k]? = some (.nd o.1 (o.2.map .d))
  | [], _, _, _, _, h => by simp at h
  | o0 :: r, i, 0, o, ⟨⟨es, h1, h2⟩, _⟩, h => by
    simp at h
    subst h
    rw [nth_eq] at h1
    rw [Nat.add_zero, h1, dsOf_eq h2]
  | o0 :: r, i, k + 1, o, ⟨_, h2⟩, h => by
    simp at h
    have := h2.get h
    rw [Nat.add_assoc, Nat.add_comm 1 k] at this
    exact this
theorem ceOf_get {os : List (Kd × List D)} {i : Nat} {cl : Cell} (h : (ceOf os)[i]? = some cl) : ∃ o, os[i]? = some o ∧ cl = .nd o.1 (o.2.map .d) := by
  unfold ceOf at h
  rw [List.getElem?_map] at h
  cases e : os[i]? with
  | none => rw [e] at h; cases h
  | some o => rw [e] at h; cases h; exact ⟨o, rfl, rfl⟩
theorem lt_ds (n : Nat) (ds : List D) : (ds.map E.d).all (E.lt n) = true := by
  rw [List.all_map, List.all_eq_true]
  intro d _
  rfl
theorem ltB_ceOf (n : Nat) (os : List (Kd × List D)) : (ceOf os).all (Cell.ltB n) = true := by
  unfold ceOf
  rw [List.all_map, List.all_eq_true]
  intro o _
  exact lt_ds n o.2
section
variable {P : Program} {w : World} {K : PySem.W.Frag} {mg : Str → Option Value} {base : Heap} {x qual : Str} {st : Stmt} {f : Addr} {fd : FuncData} {N ps : List Str} {k : Nat}
/-- the body's end tells what goes back: the first cells, and more if wanted -/
theorem fn_S2 {R : RS} (F : Fun K x qual st f fd) (S : FnScope N ps (defScope st)) (hlen : ∀ ce es post, R ce es post → es.length = ps.length)
    (body : ∀ (X : Cx) (F : Fr) (ce : List Cell) (es : List E) (post : E → List Cell → Prop), XIs X P w K mg base N (defScope st) k → (∀ y, X.fn y = true) → X.H_0 = F.H0 → R ce es post → JSs X F (defBody st) (entry N es ce ce.length)
      { nx := fun s => ∃ r ce0, Goes s (List.range ce.length ++ r) ce0 ∧ post (.d .non) ce0, rt := fun e s => ∃ r ce0 e0, Goes s (List.range ce.length ++ r) ce0 ∧ e = e0.ren (jsF (List.range ce.length ++ r) s.ce.length) ∧ e0.lt (ce.length + r.length) = true ∧ post e0 ce0 }) :
    FnOk P w K mg base CX0 (k + 1) f fd ps (spS K R) := by
  refine F.ok S (fun vs H Q E h => ?_) fun cdv A outer s H vs Q Ex hr h => ?_
  · obtain ⟨as, ce, es, G, _, _, ve, hR⟩ := h
    rw [Paired.length ve]; exact hlen ce es _ hR
  · obtain ⟨as, ce, es, G, sg, ow, ve, hR⟩ := h
    refine ⟨_, pss_sem _ _, ?_⟩
    refine body _ ⟨G, H, as⟩ ce es _ ⟨rfl, rfl, rfl, rfl, rfl, rfl, rfl, rfl, S.nd, PassesOwn.never, hr⟩ (fun _ => rfl) rfl hR as G H _ _ ?_ ?_
    · refine ⟨sg, Same.refl _, fun _ h _ => h, fun _ _ h _ => h, ow.len, List.prefix_refl _, ow.nd, ow.own, fun a h => .inl h, ow.there, ow.cells, fun i e h => slots_entry ve N h, ?_, ow.len⟩
      show (es.map some ++ List.replicate (N.length - es.length) none).length = (L2.start N vs).length
      unfold L2.start
      simp [Paired.length ve]
    · have key : ∀ {as' : List Addr} {G' H' : Hp} {σ' : L2.St} {s' : DL.S} {r : List Nat} {ce0 : List Cell}, Cz (cxOf CX0 P w K mg base N qual (defScope st) f cdv A outer s H Ex).nox ⟨G, H, as⟩ as' G' H' σ' s' → Goes s' (List.range ce.length ++ r) ce0 →
          as <+: subA as' (List.range ce.length ++ r) ∧ (∀ a ∈ subA as' (List.range ce.length ++ r), a ∈ as ∨ H a = none) ∧ (∀ b o, b ∉ as → H b = some o → H' b = some o) := fun {as' G' H' σ' s' r ce0} c g => by
        refine ⟨?_, fun a ha => ?_, fun b o hb q => c.frame b o q hb⟩
        · unfold subA
          rw [List.map_append]
          refine ⟨_, congrArg (· ++ r.map fun j => as'.getD j 0) ?_⟩
          apply List.ext_getElem?
          intro i
          by_cases hi : i < as.length
          · rw [List.getElem?_map, List.getElem?_range (by rw [← ow.len]; exact hi)]
            have := pre_get c.pre (List.getElem?_eq_getElem hi)
            rw [List.getElem?_eq_getElem hi]
            simp [List.getD, this]
          · rw [List.getElem?_eq_none (by omega), List.getElem?_eq_none (by rw [List.length_map, List.length_range, ← ow.len]; omega)]
        · obtain ⟨i, j, _, h⟩ := subA_mem (fun j hj => by rw [c.len]; exact g.2.1 j hj) ha
          exact c.fresh a (List.mem_of_getElem? h)
      refine ⟨fun as' G' H' σ' s' c x ⟨r, ce0, g, q⟩ => ?_, fun v as' G' H' σ' e' s' c x ve ⟨r, ce0, e0, g, h1, h2, q⟩ => ?_, fun _ _ _ _ _ _ _ q => q.elim, fun _ _ _ _ _ _ _ q => q.elim⟩
      · obtain ⟨k1, k2, k3⟩ := key c g
        exact q .non _ G' H' k1 k2 k3 c.base c.sub c.new (c.goes g) .non
      · obtain ⟨k1, k2, k3⟩ := key c g
        subst h1
        refine q v _ G' H' k1 k2 k3 c.base c.sub c.new (c.goes g) (ve_in (fun j hj => by rw [c.len]; exact g.2.1 j hj) ?_ ve)
        rw [List.length_append, List.length_range]; exact h2
def RtN (n : Nat) (post : Rt → Prop) : E → S → Prop
  | .d x, _ => post (.dat x)
  | .r k, s => ∃ kd es ds, nth s.ce k = some (.nd kd es) ∧ dsOf es = some ds ∧ n ≤ k ∧ post (.new kd ds)
theorem goes_owns {s : S} {os' : List (Kd × List D)} (h : Owns s 0 os') : Goes s (List.range os'.length) (ceOf os') := by
  have hg : ∀ {k : Nat} {o : Kd × List D}, os'[k]? = some o → s.ce[k]? = some (.nd o.1 (o.2.map .d)) := fun {k o} q => by
    have := h.get q
    rw [Nat.zero_add] at this
    exact this
  refine ⟨List.nodup_range, fun j hj => ?_, by rw [List.length_range]; unfold ceOf; rw [List.length_map], fun i j cl h1 h2 => ?_, ltB_ceOf _ _⟩
  · have hj := List.mem_range.mp hj
    exact (List.getElem?_eq_some_iff.mp (hg (List.getElem?_eq_getElem hj))).1
  · obtain ⟨o, h3, rfl⟩ := ceOf_get h2
    have hi := (List.getElem?_eq_some_iff.mp h3).1
    rw [List.getElem?_range hi] at h1
    cases h1
    rw [hg h3]
    show _ = some (Cell.nd o.1 ((o.2.map E.d).map _))
    rw [ren_map]
theorem goes_owns1 {s : S} {os' : List (Kd × List D)} (h : Owns s 0 os') {k : Nat} {kd : Kd} {ds : List D} (hk : s.ce[k]? = some (.nd kd (ds.map .d))) (hn : os'.length ≤ k) : Goes s (List.range os'.length ++ [k]) (ceOf os' ++ [.nd kd (ds.map .d)]) := by
  obtain ⟨g1, g2, g3, g4, g5⟩ := goes_owns h
  have hl : (ceOf os').length = os'.length := by unfold ceOf; rw [List.length_map]
  refine ⟨?_, fun j hj => ?_, by rw [List.length_append, List.length_append, g3]; rfl, fun i j cl h1 h2 => ?_, ?_⟩
  · rw [List.nodup_append]
    exact ⟨g1, by simp, fun a ha b hb e => by
      have : b = k := by simpa using hb
      subst this; subst e
      have := List.mem_range.mp ha
      omega⟩
  · rcases List.mem_append.mp hj with hj | hj
    · exact g2 j hj
    · have : j = k := by simpa using hj
      subst this
      exact (List.getElem?_eq_some_iff.mp hk).1
  · have cr : ∀ (f : Nat → Nat) (o : Kd × List D), (Cell.nd o.1 (o.2.map E.d)).ren f = .nd o.1 (o.2.map .d) := fun f o => by show Cell.nd o.1 _ = _; rw [ren_map]
    by_cases hi : i < os'.length
    · rw [List.getElem?_append_left (by rw [List.length_range]; exact hi)] at h1
      rw [List.getElem?_append_left (by omega)] at h2
      obtain ⟨o, h3, rfl⟩ := ceOf_get h2
      have := g4 i j _ h1 h2
      rw [cr] at this ⊢
      exact this
    · rw [List.getElem?_append_right (by rw [List.length_range]; omega)] at h1
      rw [List.getElem?_append_right (by omega), hl] at h2
      rw [List.length_range] at h1
      have h0 : i - os'.length = 0 := by
        have := (List.getElem?_eq_some_iff.mp h1).1
        simpa using this
      rw [h0] at h1 h2
      simp at h1 h2
      subst h1 h2
      rw [hk]
      exact congrArg some (cr _ (kd, ds)).symm
  · rw [List.all_append, ltB_ceOf]
    show (true && ([Cell.nd kd (ds.map E.d)]).all _) = true
    simp [Cell.ltB, lt_ds]
    intro x _; rfl
theorem fn_N {R : RCs} (F : Fun K x qual st f fd) (S : FnScope N ps (defScope st)) (hlen : ∀ os ds post, R os ds post → os.length + ds.length = ps.length)
    (body : ∀ (X : Cx) (F : Fr) (os : List (Kd × List D)) (ds : List D) (post : Rt → List (Kd × List D) → Prop), XIs X P w K mg base N (defScope st) k → (∀ y, X.fn y = true) → X.H_0 = F.H0 → R os ds post → JSs X F (defBody st) (entry N ((List.range os.length).map .r ++ ds.map .d) (ceOf os) os.length)
      { nx := fun s => ∃ os', Owns s 0 os' ∧ os'.length = os.length ∧ post (.dat .non) os', rt := fun e s => ∃ os', Owns s 0 os' ∧ os'.length = os.length ∧ RtN os.length (fun r => post r os') e s }) :
    FnOk P w K mg base CX0 (k + 1) f fd ps (spS K (RSn R)) := by
  refine fn_S2 F S (fun ce es post ⟨os, ds, e1, e2, hR⟩ => ?_) fun X F ce es post hX hfn hH ⟨os, ds, e1, e2, hR⟩ => ?_
  · rw [e2, List.length_append, List.length_map, List.length_range, List.length_map]; exact hlen os ds _ hR
  · subst e1 e2
    have hl : (ceOf os).length = os.length := by unfold ceOf; rw [List.length_map]
    rw [hl]
    refine JSs.mono (body X F os ds _ hX hfn hH hR) (fun s ⟨os', h2, h1, h3⟩ => ?_) (fun e s ⟨os', h2, h1, h3⟩ => ?_) (fun _ z => z) (fun _ z => z)
    · have g := goes_owns h2
      rw [h1] at g
      exact ⟨[], _, by rw [List.append_nil]; exact g, h3 h1⟩
    · cases e with
      | d y =>
        have g := goes_owns h2
        rw [h1] at g
        exact ⟨[], _, .d y, by rw [List.append_nil]; exact g, rfl, rfl, h3 h1⟩
      | r j =>
        obtain ⟨kd, es, d2, q1, q2, q3, q4⟩ := h3
        rw [nth_eq, dsOf_eq q2] at q1
        have g := goes_owns1 h2 q1 (by rw [h1]; exact q3)
        rw [h1] at g
        refine ⟨[j], _, .r os.length, g, ?_, ?_, q4 h1⟩
        · show E.r j = E.r (jsF _ _ os.length)
          congr 1
          unfold jsF
          rw [nth_eq, List.getElem?_append_right (by rw [List.length_range]; exact Nat.le_refl _)]
          simp
        · simp [E.lt]
end
/-! the call -/
variable {X : Cx} {F : Fr} {s : S}
def OwnsJ (s : S) : List Nat → List (Kd × List D) → Prop
  | [], [] => True
  | j :: js, o :: r => (∃ es, nth s.ce j = some (.nd o.1 es) ∧ dsOf es = some o.2) ∧ OwnsJ s js r
  | _, _ => False
theorem OwnsJ.len {s : S} : ∀ {js : List Nat} {os : List (Kd × List D)}, OwnsJ s js os → js.length = os.length
  | [], [], _ => rfl
  | _ :: _, _ :: _, ⟨_, h⟩ => by rw [List.length_cons, List.length_cons, h.len]
  | [], _ :: _, h => h.elim
  | _ :: _, [], h => h.elim
theorem OwnsJ.get {s : S} : ∀ {js : List Nat} {os : List (Kd × List D)} {i j : Nat}, OwnsJ s js os → js[i]? = some j → ∃ o, os[i]? = some o ∧ s.ce[j]? = some (.nd o.1 (o.2.map .d))
  | [], [], _, _, _, h => by simp at h
  | [], _ :: _, _, _, h, _ => h.elim
  | _ :: _, [], _, _, h, _ => h.elim
  | j0 :: js, o :: r, 0, j, ⟨⟨es, h1, h2⟩, _⟩, h => by
    simp at h
    subst h
    rw [nth_eq] at h1
    exact ⟨o, rfl, by rw [h1, dsOf_eq h2]⟩
  | j0 :: js, o :: r, i + 1, j, ⟨_, h2⟩, h => by
    simp at h
    obtain ⟨o', q1, q2⟩ := h2.get h
    exact ⟨o', by simpa using q1, q2⟩
def S.puts (s : S) : List Nat → List (Kd × List D) → S
  | [], _ => s
  | _ :: _, [] => s
  | j :: js, o :: r => S.puts (s.put j o.1 (o.2.map .d)) js r
termination_by structural js => js
theorem puts_eq : ∀ {js : List Nat} {os : List (Kd × List D)} {s : S}, s.puts js os = ⟨s.sl, setMany s.ce js (ceOf os), s.ar⟩
  | [], _, _ => rfl
  | _ :: _, [], _ => rfl
  | j :: js, o :: r, s => by
    show S.puts (s.put j o.1 (o.2.map .d)) js r = _
    rw [puts_eq]
    rfl
theorem ren_ceOf (f : Nat → Nat) (os : List (Kd × List D)) : (ceOf os).map (Cell.ren f) = ceOf os := by
  unfold ceOf
  rw [List.map_map]
  apply List.map_congr_left
  intro o _
  show Cell.nd o.1 _ = _
  rw [ren_map]
theorem je_callN {a : Expr} {es : List Expr} {Φ : E → S → Prop} {pos p : Pos} {x : Str} {k B : Nat} {R : RCs} (cb : CbS X x k (RSn R)) (bx : Bx X B) (hB : k ≤ B)
    (h : JA X F (a :: es) s fun vs s1 => ∃ js os ds, vs = js.map .r ++ ds.map .d ∧ js.Nodup ∧ OwnsJ s1 js os ∧ R os ds fun r os' => RtΦ Φ (s1.puts js os') r) (hdb : (x == ("__debug__" : Str)) = false := by decide)
    (he : starEach (a :: es) X.env = (false, eval a X.env) :: starEach es X.env := by rfl) (hpl : (backTo pos (starEach es X.env)).any (·.1) = false := by rfl) (hm : MonoN R := by assumption) : JE X F (.Call (.Name x p) (a :: es) [] pos) s Φ := by
  refine je_callS cb bx hB (fun as G H σ Q c kk => h as G H σ Q c fun vs as' G' H' es' s1 c' x ve ⟨js, os, ds, e1, nd, ow, hR⟩ => kk vs as' G' H' es' s1 c' x ve ?_) hdb he hpl
  have hl := ow.len
  have hb : ∀ j ∈ js, j < s1.ce.length := fun j hj => by
    obtain ⟨i, hi⟩ := List.getElem?_of_mem hj
    obtain ⟨o, _, h2⟩ := ow.get hi
    exact (List.getElem?_eq_some_iff.mp h2).1
  have hcl : (ceOf os).length = os.length := by unfold ceOf; rw [List.length_map]
  refine ⟨js, ceOf os, (List.range os.length).map .r ++ ds.map .d, ⟨nd, hb, by rw [hl, hcl], fun i j cl h1 h2 => ?_, ltB_ceOf _ _⟩, ?_, ?_, os, ds, rfl, rfl, hm os ds _ _ (fun r os' hr hl' => ?_) hR⟩
  · obtain ⟨o, h3, rfl⟩ := ceOf_get h2
    obtain ⟨o', h4, h5⟩ := ow.get h1
    rw [h3] at h4
    cases h4
    rw [h5]
    show _ = some (Cell.nd o.1 _)
    rw [ren_map]
  · rw [e1, List.map_append, ren_map, List.map_map]
    congr 1
    rw [← hl]
    apply List.ext_getElem?
    intro i
    by_cases hi : i < js.length
    · rw [List.getElem?_map, List.getElem?_map, List.getElem?_range hi, jsF_in (len := s1.ce.length) hi]
      rfl
    · rw [List.getElem?_eq_none (by rw [List.length_map]; omega), List.getElem?_eq_none (by rw [List.length_map, List.length_range]; omega)]
  · rw [List.all_append, lt_ds, Bool.and_true, List.all_map, List.all_eq_true]
    intro i hi
    have := List.mem_range.mp hi
    show decide (i < js.length) = true
    rw [hl]; exact decide_eq_true this
  · have hcl' : (ceOf os').length = os'.length := by unfold ceOf; rw [List.length_map]
    cases r with
    | dat y =>
      show Φ (.d y) (s1.back js (ceOf os'))
      have : s1.back js (ceOf os') = s1.puts js os' := by
        unfold S.back
        rw [puts_eq, List.take_of_length_le (by omega), List.drop_of_length_le (by omega), ren_ceOf, List.map_nil, List.append_nil]
      rw [this]; exact hr
    | new kd d2 =>
      show Φ (E.r (jsF js s1.ce.length os.length)) (s1.back js (ceOf os' ++ [.nd kd (d2.map .d)]))
      have e2 : jsF js s1.ce.length os.length = (s1.puts js os').ce.length := by
        rw [jsF_out (by omega), hl, Nat.sub_self, puts_eq]
        show _ = (setMany _ _ _).length
        rw [setMany_len]; rfl
      have e3 : s1.back js (ceOf os' ++ [.nd kd (d2.map .d)]) = (s1.puts js os').push kd (d2.map .d) := by
        unfold S.back
        rw [List.take_left' (by omega), List.drop_left' (by omega), ren_ceOf, puts_eq]
        show (⟨_, _ ++ [Cell.nd kd _], _⟩ : S) = ⟨_, _ ++ [Cell.nd kd _], _⟩
        rw [ren_map]
      rw [e2, e3]; exact hr
end DL
namespace DL
open PySem PySem.Spec PyProof.Rows L2
variable {X : Cx} {F : Fr} {s : S}
section
variable {e a b c : Expr} {es rest : List Expr} {Φ : E → S → Prop} {pos p p2 : Pos} {x : Str} {k B : Nat}
/-! ### owned arguments, step by step -/
def OnK (s : S) (vs : List E) (Q : List Nat → List (Kd × List D) → List D → Prop) : Prop := ∃ js os ds, vs = js.map .r ++ ds.map .d ∧ OwnsJ s js os ∧ Q js os ds
theorem on_ds {vs : List E} {ds : List D} {Q : List Nat → List (Kd × List D) → List D → Prop} (h : dsOf vs = some ds) (q : Q [] [] ds) : OnK s vs Q := ⟨[], [], ds, dsOf_eq h, trivial, q⟩
theorem on_r {vs : List E} {j : Nat} {kd : Kd} {es : List E} {ds : List D} {Q : List Nat → List (Kd × List D) → List D → Prop} (h1 : nth s.ce j = some (.nd kd es)) (h2 : dsOf es = some ds) (q : OnK s vs fun js os dd => Q (j :: js) ((kd, ds) :: os) dd) : OnK s (.r j :: vs) Q := by
  obtain ⟨js, os, dd, e1, e2, q⟩ := q
  exact ⟨j :: js, (kd, ds) :: os, dd, by rw [e1]; rfl, ⟨⟨es, h1, h2⟩, e2⟩, q⟩
theorem je_callNK {R : RCs} (cb : CbS X x k (RSn R)) (bx : Bx X B) (hB : k ≤ B) (hm : MonoN R)
    (h : JA X F (a :: es) s fun vs s1 => OnK s1 vs fun js os ds => js.Nodup ∧ R os ds fun r os' => RtΦ Φ (s1.puts js os') r) (hdb : (x == ("__debug__" : Str)) = false := by decide)
    (he : starEach (a :: es) X.env = (false, eval a X.env) :: starEach es X.env := by rfl) (hpl : (backTo pos (starEach es X.env)).any (·.1) = false := by rfl) : JE X F (.Call (.Name x p) (a :: es) [] pos) s Φ :=
  je_callN cb bx hB (fun as G H σ Q c kk => h as G H σ Q c fun vs as' G' H' es' s1 c' x ve ⟨js, os, ds, e1, e2, nd, q⟩ => kk vs as' G' H' es' s1 c' x ve ⟨js, os, ds, e1, nd, e2, q⟩) hdb he hpl hm
/-! ### in a list of texts -/
theorem inV_strs {z : Str} : ∀ ts : List Str, inV (.str z) (ts.map V.str) = decide (z ∈ ts)
  | [] => by simp [inV]
  | t :: ts => by
    have ih := inV_strs (z := z) ts
    unfold inV at ih ⊢
    rw [List.map_cons, List.any_cons, ih]
    by_cases h : z = t
    · subst h; simp [eqV]
    · have h2 : ¬ t = z := fun q => h q.symm
      simp [eqV, h, h2]
theorem flat_strs (ts : List Str) : (ts.map V.str).all flatV = true := by rw [List.all_map, List.all_eq_true]; intro t _; rfl
theorem reps_str {K : PySem.W.Frag} {G : Hp} : ∀ {ts : List Str} {vs : List V}, Reps K G vs (ts.map D.str) → vs = ts.map V.str
  | [], _, .nil => rfl
  | t :: ts, _, .cons a b => by cases a; rw [reps_str b]; rfl
theorem jr_inStrs {e2 : E} {z : Str} {kd : Kd} {ts : List Str} (h : s.node e2 = some (kd, (ts.map D.str).map .d)) (hk : kd = .lst ∨ kd = .tup) (q : Φ (.d (.bl (decide (z ∈ ts)))) s) : JR X F (compareOp .In) (.d (.str z)) e2 s Φ :=
  jr_of op_in_seq fun as G H σ x y Q c v1 v2 kk => by
    cases v1
    obtain ⟨a, vs, rfl, n, ves⟩ := c.node v2 h
    obtain rfl := reps_str ves.reps
    refine ⟨a, _, rfl, ?_, rfl, flat_strs ts, ?_⟩
    · rcases hk with rfl | rfl
      · exact .inl n
      · exact .inr n
    · rw [inV_strs]; exact kk _ as G H _ s c (Ext.refl _ _) (Rep.bl _) q
theorem jr_ninStrs {e2 : E} {z : Str} {kd : Kd} {ts : List Str} (h : s.node e2 = some (kd, (ts.map D.str).map .d)) (hk : kd = .lst ∨ kd = .tup) (q : Φ (.d (.bl (!decide (z ∈ ts)))) s) : JR X F (compareOp .NotIn) (.d (.str z)) e2 s Φ :=
  jr_of op_notIn_seq fun as G H σ x y Q c v1 v2 kk => by
    cases v1
    obtain ⟨a, vs, rfl, n, ves⟩ := c.node v2 h
    obtain rfl := reps_str ves.reps
    refine ⟨a, _, rfl, ?_, rfl, flat_strs ts, ?_⟩
    · rcases hk with rfl | rfl
      · exact .inl n
      · exact .inr n
    · rw [inV_strs]; exact kk _ as G H _ s c (Ext.refl _ _) (Rep.bl _) q
/-! ### ''.join(a list of texts) -/
theorem je_join {o : Expr} {apos : Pos} (h : JE X F o s fun eo s1 => ∃ sep, eo = .d (.str sep) ∧ JE X F a s1 fun e1 s2 => ∃ kd ts, s2.node e1 = some (kd, (ts.map D.str).map .d) ∧ (kd = .lst ∨ kd = .tup) ∧ (ts.map (·.length)).sum + ts.length * sep.length ≤ 16777216 ∧ Φ (.d (.str (Txt.join sep ts))) s2)
    (ns : NoStar a := by intro _ _; rfl) (hbase : attributeBase o "join" X.env (eval o X.env) = eval o X.env := by rfl) (hline : (apos.endLine == pos.line) = true := by rfl) : JE X F (.Call (.Attribute o "join" apos) [a] [] pos) s Φ :=
  je_of (pe_join (pe_sem X o) (pe_sem X a) (ns _ _) hbase hline) fun as G H σ Q c k => h as G H σ _ c fun v as1 G1 H1 eo s1 c1 x1 ve ⟨sep, q1, h1⟩ => by
    subst q1
    cases ve
    refine ⟨⟨sep, rfl⟩, h1 as1 G1 H1 σ _ c1 fun v2 as2 G2 H2 e2 s2 c2 x2 ve2 ⟨kd, ts, q2, q3, q4, q5⟩ => ?_⟩
    obtain ⟨a, vs, rfl, n, ves⟩ := c2.node ve2 q2
    obtain rfl := reps_str ves.reps
    refine ⟨sep, a, ts, rfl, rfl, ?_, q4, k _ as2 G2 H2 _ s2 c2 (x1.trans x2) (Rep.str _) q5⟩
    rcases q3 with rfl | rfl
    · exact .inl n
    · exact .inr n
/-! ### a, b = a list -/
theorem jg_lst {k1 : Nat} {v : E} {vs : List E} {Φ : S → Prop} (bx : Bx X B) (hn : s.node v = some (.lst, vs)) (hl : vs.length = es.length) (h : JGs X F es vs s Φ)
    (hn2 : (assignEach es X.env).length = es.length := by rfl) (hst : (assignEach es X.env).findIdx? (·.1) = none := by rfl) : JG X F (.Tuple es k1 p) v s Φ :=
  fun as G H σ u Q c ve k => by
    obtain ⟨a, ws, rfl, n, we⟩ := c.node ve hn
    exact PG.sem (pg_lst (n := es.length) bx.calm (pgs_sem X es) hn2 hst) ⟨a, ws, rfl, n, by rw [Paired.length we, hl], fun pins st us I r => h as G H σ ws Q c we k pins st us I r⟩
/-! ### list + list, slices -/
theorem op_catS : OpR X (binaryOp .Add) (fun x y H Q => ∃ l b xs zs, x = .ref l ∧ y = .ref b ∧ SqL X.K H l xs ∧ SqL X.K H b zs ∧ xs.length + zs.length ≤ sizeLine ∧ ∀ p, H p = none → Q (.ref p) (upd H p (.lst (xs ++ zs)))) := by
  intro pins s σ H x y v u Q I rx ry h
  obtain ⟨l, b, xs, zs, rfl, rfl, hH, hB, hz, q⟩ := h
  cases rx
  cases ry
  obtain ⟨its, r, ⟨⟨cls, dd, data, sl⟩, n, e, e3, e4, e5⟩, z⟩ := I.list hH
  obtain ⟨its2, r2, ⟨⟨cls2, dd2, data2, sl2⟩, n2, f, f3, f4, f5⟩, z2⟩ := I.list hB
  simp only at e3 e4 e5 f3 f4 f5
  subst e3 e4 e5 f3 f4 f5
  have hsz : its.length + its2.length ≤ sizeLine := by rw [← r.length, ← r2.length]; exact hz
  refine concat_meets ⟨_, e, rfl⟩ ⟨_, f, rfl⟩ noFill_list_add seq_list_add PySem.F.slot_list_add PySem.F.entry_list_add (PySem.F.args_list_add_2 _ _) (list_addW l b its.toArray its2.toArray n n2 .none .none sl sl2 (by simpa using hsz)) ⟨e, f, ?_⟩
  have ea : its.toArray ++ its2.toArray = (its ++ its2).toArray := by simp
  rw [ea]
  exact ⟨.ref _, _, I.lnew (t' := s.toks) (r.append r2) (by rw [List.length_append]; omega), rfl, q _ I.fresh⟩
/-- xs + ys, lists: a new one, frozen -/
theorem jr_cat {e1 e2 : E} {ds1 ds2 : List D} (h1 : s.node e1 = some (.lst, ds1.map .d)) (h2 : s.node e2 = some (.lst, ds2.map .d)) (hl : ds1.length + ds2.length ≤ sizeLine) (q : Φ (.d (.nd .lst (ds1 ++ ds2))) s) : JR X F (binaryOp .Add) e1 e2 s Φ :=
  jr_of op_catS fun as G H σ x y Q c v1 v2 k => by
    obtain ⟨a, vs, rfl, n1, w1⟩ := c.node v1 h1
    obtain ⟨b, ws, rfl, n2, w2⟩ := c.node v2 h2
    refine ⟨a, b, vs, ws, rfl, rfl, n1, n2, by rw [w1.reps.length, w2.reps.length]; exact hl, fun p hp => ?_⟩
    have sg : Same G (upd G p (.lst (vs ++ ws))) := same_new (c.gnone hp)
    exact k _ as _ _ (.d (.nd .lst (ds1 ++ ds2))) s (c.addG hp) ⟨List.prefix_refl _, sg⟩ (.nd (SqL.of upd_same) ((w1.reps.append w2.reps).mono sg)) q
/-- xs[lo:hi] -/
def cutD (ds : List D) (lo hi : Option Int) : List D := (ds.drop (HT.sIx ds.length 0 lo)).take (HT.sIx ds.length ds.length hi - HT.sIx ds.length 0 lo)
theorem reps_cut {K : PySem.W.Frag} {G : Hp} {vs : List V} {ds : List D} (r : Reps K G vs ds) (lo hi : Option Int) : Reps K G (cutV vs lo hi) (cutD ds lo hi) := by
  unfold cutV cutD
  rw [r.length]
  exact (r.drop _).take _
theorem je_sliceL {lo hi : Option Expr} {p2 : Pos} (h : JE X F a s fun e s1 => JO X F lo s1 fun l s2 => JO X F hi s2 fun u s3 => ∃ ds, s3.node e = some (.lst, ds.map .d) ∧ Φ (.d (.nd .lst (cutD ds l u))) s3) : JE X F (.Subscript a (.Slice lo hi none p2) pos) s Φ :=
  je_of (pe_slice sl_list (pe_sem X a) (po_sem X lo) (po_sem X hi)) fun as G H σ Q c k => h as G H σ _ c fun v as1 G1 H1 e1 s1 c1 x1 ve h1 => jo_run h1 c1 fun l as2 G2 H2 s2 c2 x2 h2 => jo_run h2 c2 fun u as3 G3 H3 s3 c3 x3 ⟨ds, q1, q2⟩ => by
    obtain ⟨a, vs, rfl, n, w⟩ := c3.node ((x2.trans x3).ve ve) q1
    refine ⟨a, vs, rfl, n, fun p hp => ?_⟩
    have sg : Same G3 (upd G3 p (.lst (cutV vs l u))) := same_new (c3.gnone hp)
    exact k _ as3 _ _ (.d (.nd .lst (cutD ds l u))) s3 (c3.addG hp) (((x1.trans x2).trans x3).trans ⟨List.prefix_refl _, sg⟩) (.nd (SqL.of upd_same) ((reps_cut w.reps l u).mono sg)) q2
end
end DL
namespace DL
open PySem PySem.Spec PyProof.Rows L2
variable {X : Cx} {F : Fr} {s : S}
/-! ### the last cell frozen and dropped -/
def TidyB (s : S) : Bool := s.sl.all (E.ltB s.ce.length) && s.ce.all (Cell.ltB s.ce.length) && decide (s.ar ≤ s.ce.length)
theorem Cz.popT {as' : List Addr} {G' H' : Hp} {σ : L2.St} {kd : Kd} {ds : List D} (c' : Cz X F as' G' H' σ (s.push kd (ds.map .d))) (ht : TidyB s = true) :
    ∃ G2, Cz X F (as'.take s.ce.length) G2 H' σ s ∧ Same G' G2 ∧ ∀ q, as'[s.ce.length]? = some q → Rep X.K G2 (.ref q) (.nd kd ds) := by
  unfold TidyB at ht
  simp only [Bool.and_eq_true, decide_eq_true_eq] at ht
  obtain ⟨⟨t1, t2⟩, t3⟩ := ht
  have w : Wk (s.push kd (ds.map .d)) s := ⟨fun i e h => h, rfl, ⟨_, rfl⟩, rfl, t3⟩
  have c2 := c'.weak' w t1 t2
  obtain ⟨q, hq⟩ : ∃ q, as'[s.ce.length]? = some q := by
    have : s.ce.length < as'.length := by
      rw [c'.len]
      show _ < (s.ce ++ [Cell.nd kd (ds.map .d)]).length
      simp
    exact ⟨_, List.getElem?_eq_getElem this⟩
  have hce : (s.push kd (ds.map .d)).ce[s.ce.length]? = some (.nd kd (ds.map .d)) := by
    show (s.ce ++ [Cell.nd kd (ds.map .d)])[s.ce.length]? = _
    rw [List.getElem?_append_right (Nat.le_refl _)]; simp
  obtain ⟨q', vs, g1, g2, g3⟩ := c'.cells _ _ _ hce
  rw [hq] at g1
  cases g1
  obtain ⟨o, ho⟩ := g2.some
  have gn : G' q = none := c'.own _ _ _ _ hq hce
  have nin : q ∉ as'.take s.ce.length := fun z => by
    obtain ⟨j, hj⟩ := List.getElem?_of_mem z
    have l3 := (List.getElem?_eq_some_iff.mp hj).1
    rw [List.length_take] at l3
    rw [List.getElem?_take_of_lt (by omega)] at hj
    have := nodup_get c'.nd hj hq
    omega
  have h0 : F.H0 q = none := (c'.fresh q (List.mem_of_getElem? hq)).resolve_left fun z => by
    have := c2.pre.subset z
    exact nin this
  refine ⟨upd G' q o, c2.frzG ho gn nin h0, same_new gn, fun q2 hq2 => ?_⟩
  rw [hq] at hq2
  cases hq2
  have cg : CellAt (upd G' q o) q vs kd := g2.keep fun u z => by rw [upd_same, ← ho, z]
  exact .nd cg.node (g3.reps.mono (same_new gn))
section
variable {e a b c elt iter : Expr} {es rest ifs : List Expr} {Φ : E → S → Prop} {pos p p2 : Pos} {x : Str} {k B : Nat} {scope : Scope} {own : List (Str × Nat)} {j : Nat}
theorem je_popT (h : JE X F e s fun e1 s1 => ∃ s0 kd ds, e1 = .r s0.ce.length ∧ s1 = s0.push kd (ds.map .d) ∧ s.ce.length ≤ s0.ce.length ∧ TidyB s0 = true ∧ Φ (.d (.nd kd ds)) s0) : JE X F e s Φ := fun as G H σ Q c k =>
  h as G H σ Q c fun v as1 G1 H1 e1 s1 c1 x1 ve ⟨s0, kd, ds, q1, q2, q3, q4, q5⟩ => by
    subst q1 q2
    obtain ⟨G2, c2, sg, rep⟩ := c1.popT q4
    obtain ⟨q, hq, rfl⟩ := ve
    refine k _ _ G2 H1 _ s0 c2 ⟨?_, x1.sub.trans sg⟩ (rep q hq) q5
    obtain ⟨t, rfl⟩ := x1.pre
    rw [List.take_append]
    have : as.length ≤ s0.ce.length := by rw [c.len]; exact q3
    rw [List.take_of_length_le this]
    exact ⟨_, rfl⟩
/-! ### comprehensions whose elements write to owned cells -/
/-- the state in the block -/
def S.blkI (t : S) (ds : List D) (j : Nat) (v : E) : S := (t.push .lst (ds.map .d)).set j v
def LcI (X : Cx) (F : Fr) (tg iter elt : Expr) (scope : Scope) (vs : List Nat) (j : Nat) (s : S) (Θ : List D → S → Prop) : Prop :=
  JI X F tg iter s fun n it s1 => n ≤ 16000000 ∧ ∃ In : Nat → List D → S → Prop, In 0 [] (s1.wipe vs) ∧
    (∀ i v ds t, i < n → it i v → ds.length = i → In i ds t → t.wipe vs = t ∧ t.ce.length = s1.ce.length ∧ ∀ Y, IsBlk X scope Y → JE Y F elt (t.blkI ds j v) fun y s3 => ∃ d t', y = .d d ∧ s3 = t'.blkI ds j v ∧ t'.wipe vs = t' ∧ t'.ce.length = s1.ce.length ∧ In (i + 1) (ds ++ [d]) t') ∧
    ∀ ds t, ds.length = n → In n ds t → t.ce.length = s1.ce.length ∧ Θ ds ⟨s1.sl, t.ce, s1.ar⟩
theorem lc_imp {Θ : List D → S → Prop} (hj : j ∈ own.map (·.2)) {n : Nat} {it : Nat → E → Prop} {s1 : S} {In : Nat → List D → S → Prop} (hn : n ≤ 16000000) (w0 : (s1.wipe (own.map (·.2))).wipe (own.map (·.2)) = s1.wipe (own.map (·.2))) (h0 : In 0 [] (s1.wipe (own.map (·.2))))
    (ht : ∀ i v ds t, i < n → it i v → ds.length = i → In i ds t → t.wipe (own.map (·.2)) = t ∧ t.ce.length = s1.ce.length ∧ ∀ Y, IsBlk X scope Y → JE Y F elt (t.blkI ds j v) fun y s3 => ∃ d t', y = .d d ∧ s3 = t'.blkI ds j v ∧ t'.wipe (own.map (·.2)) = t' ∧ t'.ce.length = s1.ce.length ∧ In (i + 1) (ds ++ [d]) t') :
    let In' : Nat → List E → S → Prop := fun i acc s' => ∃ ds t, ds.length = i ∧ acc = ds.map .d ∧ s' = t.push .lst acc ∧ t.wipe (own.map (·.2)) = t ∧ t.ce.length = s1.ce.length ∧ In i ds t
    In' 0 [] ((s1.wipe (own.map (·.2))).push .lst []) ∧
      (∀ i v acc s', i < n → it i v → In' i acc s' → nth s'.ce s1.ce.length = some (.nd .lst acc) ∧ ∀ Y, IsBlk X scope Y → JTs Y F ([] : List Expr) (s'.set j v) fun b s2 =>
        if b = true then ∀ Y2, IsBlk X scope Y2 → JE Y2 F elt s2 fun y s3 => nth s3.ce s1.ce.length = some (.nd .lst acc) ∧ acc.length < sizeLine ∧ In' (i + 1) (acc ++ [y]) ((s3.put s1.ce.length .lst (acc ++ [y])).wipe (own.map (·.2)))
        else In' (i + 1) acc (s2.wipe (own.map (·.2)))) := by
  intro In'
  have cel : ∀ (t : S) (l : List E), t.ce.length = s1.ce.length → nth (t.push .lst l).ce s1.ce.length = some (.nd .lst l) := fun t l hl => by
    rw [nth_eq]
    show (t.ce ++ [Cell.nd .lst l])[s1.ce.length]? = _
    rw [← hl, List.getElem?_append_right (Nat.le_refl _)]
    simp
  refine ⟨⟨[], _, rfl, rfl, rfl, w0, rfl, h0⟩, ?_⟩
  rintro i v acc s' hi hv ⟨ds, t, hdl, rfl, rfl, hw, hl, hI⟩
  obtain ⟨_, _, hJ⟩ := ht i v ds t hi hv hdl hI
  refine ⟨cel t _ hl, fun Y hY => ?_⟩
  dsimp only [JTs]
  refine L2.iteT ?_
  refine fun Y2 hY2 => (hJ Y2 hY2).mono fun y s3 ⟨d, t', e1, e2, e3, e4, e5⟩ => ?_
  subst e1 e2
  refine ⟨cel t' _ e4, by rw [List.length_map, sizeLine_eq]; omega, ds ++ [d], t', by simp [hdl], by simp, ?_, e3, e4, e5⟩
  have hput : ((t'.push .lst (ds.map .d)).set j v).put s1.ce.length .lst (ds.map .d ++ [.d d]) = (t'.push .lst (ds.map .d ++ [.d d])).set j v := by
    show (⟨_, setN (t'.ce ++ [Cell.nd .lst _]) s1.ce.length _, _⟩ : S) = ⟨_, t'.ce ++ [_], _⟩
    rw [setN_eq, ← e4, List.set_append_right _ _ (Nat.le_refl _)]
    simp
    exact ⟨rfl, rfl⟩
  show (((t'.push .lst (ds.map .d)).set j v).put s1.ce.length .lst (ds.map .d ++ [.d d])).wipe _ = _
  rw [hput, set_wipe hj]
  have e6 : wipeN t'.sl (own.map (·.2)) = t'.sl := congrArg S.sl e3
  show (⟨wipeN t'.sl _, _, _⟩ : S) = ⟨t'.sl, _, _⟩
  rw [e6]
  rfl
/-- [..], owned -/
theorem je_lcI (bx : Bx X B) (ok : BlkOk X.N X.env.scope scope own) (hj : j ∈ own.map (·.2)) (hn : ∀ Y, IsBlk X scope Y → NmW Y j x)
    (h : LcI X F (.Name x p) iter elt scope (own.map (·.2)) j s fun ds t => Φ (.r t.ce.length) (t.push .lst (ds.map .d)))
    (hs : ∀ x, foldedSetIterable iter X.env x = pure x := by intro _; rfl) : JE X F (.ListComp elt [⟨.Name x p, iter, [], 0⟩] scope pos) s Φ := by
  refine je_lc bx ok hj hn (fun as G H σ R c k => h as G H σ R c fun J as1 G1 H1 s1 n it c1 x1 okJ ⟨q1, In, q2, q3, q4⟩ => ?_) hs
  have z := lc_imp (Θ := fun _ _ => True) hj q1 wipe_wipe q2 q3
  refine k J as1 G1 H1 s1 n it c1 x1 okJ ⟨_, z.1, z.2, ?_⟩
  rintro acc s' ⟨ds, t, hdl, rfl, rfl, hw, hl, hI⟩
  obtain ⟨e1, e2⟩ := q4 ds t hdl hI
  rw [← e1]
  exact e2
/-- .. frozen -/
theorem je_lcF (bx : Bx X B) (ok : BlkOk X.N X.env.scope scope own) (hj : j ∈ own.map (·.2)) (hn : ∀ Y, IsBlk X scope Y → NmW Y j x)
    (h : LcI X F (.Name x p) iter elt scope (own.map (·.2)) j s fun ds t => s.ce.length ≤ t.ce.length ∧ TidyB t = true ∧ Φ (.d (.nd .lst ds)) t)
    (hs : ∀ x, foldedSetIterable iter X.env x = pure x := by intro _; rfl) : JE X F (.ListComp elt [⟨.Name x p, iter, [], 0⟩] scope pos) s Φ :=
  je_popT (je_lcI bx ok hj hn (fun as G H σ R c k => h as G H σ R c fun J as1 G1 H1 s1 n it c1 x1 okJ ⟨q1, In, q2, q3, q4⟩ => k J as1 G1 H1 s1 n it c1 x1 okJ ⟨q1, In, q2, q3, fun ds t hd hI => by
    obtain ⟨e1, e2, e3, e4⟩ := q4 ds t hd hI
    exact ⟨e1, _, _, ds, rfl, rfl, e2, e3, e4⟩⟩) hs)
/-- name = [..] on one line, owned -/
theorem js_setLcI {i : Nat} {y : Str} {py spos : Pos} {P : Po} (bx : Bx X B) (ny : NmW X i y) (ly : X.env.scope.names.lookup y = some .local) (hsw : swapsWith (.ListComp elt [⟨.Name x p, iter, [], 0⟩] scope pos) (some (.Name y py)) spos.line X.env = pure true)
    (ok : BlkOk X.N X.env.scope scope own) (hj : j ∈ own.map (·.2)) (hn : ∀ Y, IsBlk X scope Y → NmW Y j x)
    (h : LcI X F (.Name x p) iter elt scope (own.map (·.2)) j s fun ds t => P.nx ((t.push .lst (ds.map .d)).set i (.r t.ce.length)))
    (hs : ∀ x, foldedSetIterable iter X.env x = pure x := by intro _; rfl) : JS X F (.Assign [.Name y py] (.ListComp elt [⟨.Name x p, iter, [], 0⟩] scope pos) spos) s P := by
  refine js_setLc bx ny ly hsw ok hj hn (fun as G H σ R c k => h as G H σ R c fun J as1 G1 H1 s1 n it c1 x1 okJ ⟨q1, In, q2, q3, q4⟩ => ?_) hs
  have z := lc_imp (Θ := fun _ _ => True) hj q1 wipe_wipe q2 q3
  refine k J as1 G1 H1 s1 n it c1 x1 okJ ⟨_, z.1, z.2, ?_⟩
  rintro acc s' ⟨ds, t, hdl, rfl, rfl, hw, hl, hI⟩
  obtain ⟨e1, e2⟩ := q4 ds t hdl hI
  rw [← e1]
  exact e2
end
end DL
namespace DL
open PySem PySem.Spec PyProof.Rows L2
variable {X : Cx} {F : Fr} {s : S}
section
variable {elt iter kx vx c0 : Expr} {scope : Scope} {own : List (Str × Nat)} {pos p : Pos} {x : Str} {j B : Nat} {Φ : E → S → Prop}
/-! ### a dict comprehension with a test -/
def dcT (kf : Nat → Key) (f : Nat → D) (g : Nat → Bool) : Nat → List Key × List D
  | 0 => ([], [])
  | n + 1 => if g n = true then (dpK (dcT kf f g n).1 (kf n), dpV (dcT kf f g n).1 (dcT kf f g n).2 (kf n) (f n)) else dcT kf f g n
theorem dcT_ok (kf : Nat → Key) (f : Nat → D) (g : Nat → Bool) : ∀ n, (dcT kf f g n).1.length = (dcT kf f g n).2.length ∧ (dcT kf f g n).1.Nodup ∧ (dcT kf f g n).1.length ≤ n
  | 0 => ⟨rfl, List.nodup_nil, Nat.le_refl _⟩
  | n + 1 => by
    obtain ⟨h1, h2, h3⟩ := dcT_ok kf f g n
    unfold dcT
    split
    · refine ⟨dpV_len h1, dpK_nodup h2, ?_⟩
      show (dpK (dcT kf f g n).1 (kf n)).length ≤ n + 1
      unfold dpK
      split
      · omega
      · simp; omega
    · exact ⟨h1, h2, by omega⟩
theorem dcT_keys (kf : Nat → Key) (f : Nat → D) (g : Nat → Bool) : ∀ n, ∀ k ∈ (dcT kf f g n).1, ∃ i, i < n ∧ k = kf i
  | 0, k, h => by cases h
  | n + 1, k, h => by
    unfold dcT at h
    split at h
    · have h : k ∈ dpK (dcT kf f g n).1 (kf n) := h
      unfold dpK at h
      split at h
      · obtain ⟨i, h1, h2⟩ := dcT_keys kf f g n k h
        exact ⟨i, by omega, h2⟩
      · rcases List.mem_append.mp h with h | h
        · obtain ⟨i, h1, h2⟩ := dcT_keys kf f g n k h
          exact ⟨i, by omega, h2⟩
        · exact ⟨n, by omega, by simpa using h⟩
    · obtain ⟨i, h1, h2⟩ := dcT_keys kf f g n k h
      exact ⟨i, by omega, h2⟩
/-- the keys all different -/
theorem dcT_inj {kf : Nat → Key} {f : Nat → D} {g : Nat → Bool} : ∀ {n : Nat}, (∀ i j, i < j → j < n → kf i ≠ kf j) → dcT kf f g n = (((List.range n).filter g).map kf, ((List.range n).filter g).map f)
  | 0, _ => rfl
  | n + 1, h => by
    have ih := dcT_inj (f := f) (g := g) (n := n) fun i j h1 h2 => h i j h1 (by omega)
    have hm : ¬ memK (kf n) (dcT kf f g n).1 = true := fun z => by
      obtain ⟨i, h1, h2⟩ := dcT_keys kf f g n _ (memK_iff.mp z)
      exact h i n h1 (by omega) h2.symm
    rw [List.range_succ, List.filter_append]
    show (if g n = true then _ else _) = _
    by_cases hg : g n = true
    · rw [if_pos hg]
      unfold dpK dpV
      rw [if_neg hm, if_neg hm, ih]
      simp [List.filter_cons, hg]
    · rw [if_neg hg, ih]
      simp [List.filter_cons, hg]
def DcT (X : Cx) (F : Fr) (tg iter c0 kx vx : Expr) (scope : Scope) (vs : List Nat) (j : Nat) (s : S) (Φ : List Key → List D → Prop) : Prop :=
  JI X F tg iter s fun n it s1 => s1 = s ∧ n ≤ 16000000 ∧ ∃ (kf : Nat → Key) (f : Nat → D) (g : Nat → Bool), (∀ i v, i < n → it i v → (∀ Y F, IsBlk X scope Y → JT Y F c0 (s.dblk vs j v) fun b s3 => b = g i ∧ s3 = s.dblk vs j v) ∧ (g i = true → Pure1 X scope kx (s.dblk vs j v) (kD (kf i)) ∧ Pure1 X scope vx (s.dblk vs j v) (f i))) ∧ Φ (dcT kf f g n).1 (dcT kf f g n).2
theorem dcT_read {Φ : List Key → List D → Prop} (hj : j ∈ own.map (·.2)) (h : DcT X F (.Name x p) iter c0 kx vx scope (own.map (·.2)) j s Φ) :
    ∀ as G H σ (Q : VK), Cz X F as G H σ s → (∀ D as' G' H' vs ks ds, Cz X F as' G' H' σ s → Ext as as' G G' → H' D = some (.dK (ks.zip vs)) → G' D = none → D ∉ as' → F.H0 D = none → Reps X.K G' vs ds → ks.length = vs.length → ks.Nodup → Φ ks ds → Q (.ref D) H') →
      tDc (semI X (.Name x p) iter) (gName j) (ttB X scope [c0]) (teB X scope kx) (teB X scope vx) (own.map (·.2)) σ H Q := by
  refine fun as G H σ Q c k => h as G H σ _ c fun J as1 G1 H1 s1 n it c1 x1 okJ ⟨q1, q2, kf, f, g, q3, q4⟩ => ?_
  subst q1
  intro D hD
  have gD := c1.gnone hD
  have nD := c1.notin hD
  have hD0 := c1.h0none hD
  -- the state of a turn
  have keep : ∀ {as' : List Addr} {G' H' : Hp} {σ' : L2.St} {s' : S} {o : HO}, Cz X F as' G' H' σ' s' → G' D = none → D ∉ as' → F.H0 D = none → Cz X F as' G' (upd H' D o) σ' s' := fun {as' G' H' σ' s' o} c' g' n' h0 => by
    refine ⟨fun b u q => ?_, c'.base, c'.new, fun b u w1 w2 => ?_, c'.len, c'.pre, c'.nd, c'.own, c'.fresh, fun a ha => ?_, fun l kd es q => ?_, c'.slots, c'.slen, c'.har⟩
    · rw [upd_ne (ne_of_none q g')]; exact c'.sub b u q
    · rw [upd_ne (ne_of_none w1 h0)]; exact c'.frame b u w1 w2
    · rw [upd_ne (fun z => n' (by rw [← z]; exact ha))]; exact c'.there a ha
    · obtain ⟨a, ws, w1, w2, w3⟩ := c'.cells l kd es q
      exact ⟨a, ws, w1, w2.keep fun u z => by rw [upd_ne (fun z => n' (by rw [← z]; exact List.mem_of_getElem? w1))]; exact z, w3⟩
  have c1' := keep (o := .dK []) (c1.wipe (own.map (·.2))) gD nD hD0
  refine ⟨fun i m H' => m = n - i ∧ i ≤ n ∧ ∃ as' G' vs, Cz X F as' G' H' (wipe σ (own.map (·.2))) (s1.wipe (own.map (·.2))) ∧ Ext as1 as' G1 G' ∧ H' D = some (.dK ((dcT kf f g i).1.zip vs)) ∧ G' D = none ∧ D ∉ as' ∧ Reps X.K G' vs (dcT kf f g i).2, ⟨n, by simp, Nat.zero_le _, as1, G1, [], c1', Ext.refl _ _, upd_same, gD, nD, .nil⟩, ?_⟩
  rintro i m H' ⟨rfl, hi, as', G', vs, c', x', hd, g', n', rs⟩
  by_cases hlt : i < n
  · refine .inr ⟨okJ.go i as' G' H' _ _ hlt c' x'.sub, fun H2 => ∃ as' G' vs, Cz X F as' G' H2 (wipe σ (own.map (·.2))) (s1.wipe (own.map (·.2))) ∧ Ext as1 as' G1 G' ∧ H2 D = some (.dK ((dcT kf f g (i + 1)).1.zip vs)) ∧ G' D = none ∧ D ∉ as' ∧ Reps X.K G' vs (dcT kf f g (i + 1)).2, fun H2 ⟨as2, G2, vs2, w⟩ => ⟨n - (i + 1), by omega, rfl, hlt, as2, G2, vs2, w⟩, fun v H2 y => ?_⟩
    obtain ⟨G2, e, c2, ⟨x2, gk⟩, ve, hv⟩ := okJ.yld i as' G' H' _ _ v H2 hlt c' x'.sub y
    have hd2 : H2 D = _ := okJ.keep i as' G' H' _ _ v H2 hlt c' x'.sub y D _ hd
    have g2 : G2 D = none := gk D (by rw [hd]; exact fun z => nomatch z) g'
    obtain ⟨t0, t12⟩ := q3 i e hlt hv
    have c3 := c2.set (i := j) ve
    have ws : wipe ((wipe σ (own.map (·.2))).set j (some v)) (own.map (·.2)) = wipe σ (own.map (·.2)) := wipe_same (by rw [List.length_set, wipe_length]) fun l hl => by
      rw [List.getElem?_set_ne (fun z => hl (by rw [← z]; exact hj)), wipe_out' hl]
    have c4 := c3.enter
    refine ⟨ws, fun Y hY pins st I => jts_run (ifs := [c0]) (t0 Y _ hY) (cz_blk hY c4) (fun bb asT GT HT sT cT xT ⟨w1, w2⟩ => ?_) pins st I⟩
    subst w1 w2
    have cT := cz_ublk hY cT
    have gT : GT D = none := cT.new D g2 (by show H2 D ≠ none; rw [hd2]; exact fun z => nomatch z)
    have dT : HT D = _ := cT.frame D _ hd2 n'
    have nT : D ∉ asT := fun z => by
      rcases cT.fresh D z with z | z
      · exact n' z
      · rw [show H2 D = none from z] at hd2; cases hd2
    have cT := c3.leave cT
    have es0 : (S.wipe ⟨(s1.dblk (own.map (·.2)) j e).sl, (s1.dblk (own.map (·.2)) j e).ce, s1.ar⟩ (own.map (·.2))) = s1.wipe (own.map (·.2)) := by
      show (((s1.wipe (own.map (·.2))).set j e).wipe (own.map (·.2))) = _
      rw [set_wipe hj, wipe_wipe]
    by_cases hg : g i = true
    rotate_left
    · have hg : g i = false := by simpa using hg
      rw [hg]
      simp only [Bool.false_eq_true, if_false]
      have c6 := cT.wipe (own.map (·.2))
      rw [ws] at c6
      have c6 : Cz X F asT GT HT (wipe σ (own.map (·.2))) (s1.wipe (own.map (·.2))) := es0 ▸ c6
      have e0 : dcT kf f g (i + 1) = dcT kf f g i := by show (if g i = true then _ else _) = _; rw [if_neg (by rw [hg]; exact Bool.false_ne_true)]
      refine ⟨asT, GT, vs, c6, (x'.trans ⟨List.prefix_refl _, x2⟩).trans xT, ?_, gT, nT, ?_⟩
      · rw [e0]; exact dT
      · rw [e0]; exact rs.mono (x2.trans xT.sub)
    obtain ⟨t1, t2⟩ := t12 hg
    rw [hg]
    simp only [if_true]
    have eT : dcT kf f g (i + 1) = (dpK (dcT kf f g i).1 (kf i), dpV (dcT kf f g i).1 (dcT kf f g i).2 (kf i) (f i)) := by show (if g i = true then _ else _) = _; rw [if_pos hg]
    rw [eT]
    refine fun Y2 hY2 => t1 Y2 _ hY2 asT GT HT _ _ (cz_blk hY2 cT.enter) fun y as5 G5 H5 y' s5 c5 x5 ve5 ⟨w1, w2⟩ => ?_
    subst w1 w2
    have ve5 := rep_kV ve5
    subst ve5
    have c5 := cz_ublk hY2 c5
    have g5 : G5 D = none := c5.new D gT (by show HT D ≠ none; rw [dT]; exact fun z => nomatch z)
    have d5 : H5 D = _ := c5.frame D _ dT nT
    have n5 : D ∉ as5 := fun z => by
      rcases c5.fresh D z with z | z
      · exact nT z
      · rw [show HT D = none from z] at dT; cases dT
    have c5 := cT.leave c5
    refine fun Y3 hY3 => t2 Y3 _ hY3 as5 G5 H5 _ _ (cz_blk hY3 c5.enter) fun y as6 G6 H6 y' s6 c6 x6 ve6 ⟨w1, w2⟩ => ?_
    subst w1 w2
    have ve6 : Rep Y3.K G6 y (f i) := ve6
    rw [hY3.K] at ve6
    have c6 := cz_ublk hY3 c6
    have g6 : G6 D = none := c6.new D g5 (by show H5 D ≠ none; rw [d5]; exact fun z => nomatch z)
    have d6 : H6 D = _ := c6.frame D _ d5 n5
    have n6 : D ∉ as6 := fun z => by
      rcases c6.fresh D z with z | z
      · exact n5 z
      · rw [show H5 D = none from z] at d5; cases d5
    have c6 := (c5.leave c6).wipe (own.map (·.2))
    rw [ws] at c6
    have es : (S.wipe ⟨(s1.dblk (own.map (·.2)) j e).sl, (s1.dblk (own.map (·.2)) j e).ce, s1.ar⟩ (own.map (·.2))) = s1.wipe (own.map (·.2)) := by
      show (((s1.wipe (own.map (·.2))).set j e).wipe (own.map (·.2))) = _
      rw [set_wipe hj, wipe_wipe]
    have c6 : Cz X F as6 G6 H6 (wipe σ (own.map (·.2))) (s1.wipe (own.map (·.2))) := es ▸ c6
    obtain ⟨l1, l2, l3⟩ := dcT_ok kf f g i
    have ll : (dcT kf f g i).1.length = vs.length := by rw [l1, rs.length]
    refine ⟨_, kf i, rfl, d6, ?_, as6, G6, dpV (dcT kf f g i).1 vs (kf i) y, keep c6 g6 n6 hD0, ?_, ?_, g6, n6, ?_⟩
    · rw [List.length_zip, ← ll, Nat.min_self, sizeLine_eq]; omega
    · exact (x'.trans ⟨List.prefix_refl _, x2⟩).trans (xT.trans (x5.trans x6))
    · rw [upd_same, putK_zip ll]
    · exact reps_dpV ve6 (rs.mono (((x2.trans xT.sub).trans x5.sub).trans x6.sub))
  · have e : i = n := by omega
    subst e
    obtain ⟨l1, l2, l3⟩ := dcT_ok kf f g i
    exact .inl ⟨okJ.stop as' G' H' _ _ c' x'.sub, k D as' G' H' vs _ _ (show Cz X F as' G' H' σ ⟨s1.sl, (s1.wipe (own.map (·.2))).ce, s1.ar⟩ from c1.back c' x') (x1.trans x') hd g' n' hD0 rs (by rw [l1, rs.length]) l2 q4⟩
/-- {k: v for x in iter if c}, pure: the dict, frozen -/
theorem je_dcT (bx : Bx X B) (ok : BlkOk X.N X.env.scope scope own) (hj : j ∈ own.map (·.2)) (hn : ∀ Y, IsBlk X scope Y → NmW Y j x)
    (h : DcT X F (.Name x p) iter c0 kx vx scope (own.map (·.2)) j s fun ks ds => Φ (.d (.nd (.dct ks) ds)) s)
    (hs : ∀ x, foldedSetIterable iter X.env x = pure x := by intro _; rfl) : JE X F (.DictComp kx vx [⟨.Name x p, iter, [c0], 0⟩] scope pos) s Φ := fun as G H σ Q c k =>
  sem_lock (PE.sem (pe_dc bx.calm bx.nd (pi_sem X _ iter) ok (pg_B hn) pts_B pe_B pe_B hs) (dcT_read hj h as G H σ _ c fun D as' G' H' vs ks ds c' x' hd gD nD h0 rs l nd q =>
    ⟨D, _, hd, trivial, fun od => by
      obtain ⟨c2, sg, rep⟩ := frz_dct (od := od) c' gD nD h0 rs l nd
      exact k _ as' _ _ _ s c2 (x'.trans ⟨List.prefix_refl _, sg⟩) rep q⟩))
end
end DL
namespace DL
open PySem PySem.Spec PyProof.Rows L2
variable {X : Cx} {F : Fr} {s : S}
/-! ### sizes -/
def Bd (k : Nat) (x : Int) : Prop := x.natAbs < 2 ^ k
theorem Bd.mul {a b : Nat} {x y : Int} (h1 : Bd a x) (h2 : Bd b y) : Bd (a + b) (x * y) := wide_lt h1 h2
theorem Bd.mono {a b : Nat} {x : Int} (h : Bd a x) (l : a ≤ b) : Bd b x := Nat.lt_of_lt_of_le h (Nat.pow_le_pow_right (by decide) l)
theorem Bd.le {a : Nat} {x y : Int} (h : Bd a x) (l : y.natAbs ≤ x.natAbs) : Bd a y := Nat.lt_of_le_of_lt l h
theorem Bd.sub {a : Nat} {x y : Int} (h1 : Bd a x) (h2 : Bd a y) : Bd (a + 1) (x - y) := by
  unfold Bd at *
  rw [Nat.pow_succ]
  omega
theorem Bd.add {a : Nat} {x y : Int} (h1 : Bd a x) (h2 : Bd a y) : Bd (a + 1) (x + y) := by
  unfold Bd at *
  rw [Nat.pow_succ]
  omega
theorem Bd.neg {a : Nat} {x : Int} (h : Bd a x) : Bd a (-x) := by unfold Bd at *; rw [Int.natAbs_neg]; exact h
theorem Bd.lg {a : Nat} {x : Int} (h : Bd a x) (h0 : 0 < a) : x.natAbs.log2 < a := PySem.Flt.log2_lt_of h0 h
theorem Bd.cmul {a b : Nat} {x y : Int} (h1 : Bd a x) (h2 : Bd b y) (h0 : 0 < a) (h3 : 0 < b) (h : a + b ≤ 1000000) : CMul x y ∨ CMulW x y := .inr (wide_mul h1 h2 h0 h3 h)
theorem Bd.cdiv {a : Nat} {x y : Int} (h1 : Bd a y) (h : 0 < y) (h0 : 0 < a) (h9 : a ≤ 9000) : CDiv x y ∨ CDivW x y := .inr ⟨h, Nat.lt_of_lt_of_le (h1.lg h0) h9⟩
/-! ### fractions as the core's rationals -/
def frQ (x : Rat) : D := .nd .tup [.int x.num, .int x.den]
theorem frQ_inj {x y : Rat} (h : frQ x = frQ y) : x = y := by
  unfold frQ at h
  injection h with _ h
  injection h with h1 h2
  injection h2 with h2 _
  injection h1 with h1
  injection h2 with h2
  exact Rat.ext h1 (by omega)
structure QB (k : Nat) (x : Rat) : Prop where
  n : Bd k x.num
  d : x.den < 2 ^ k
theorem QB.db {k : Nat} {x : Rat} (h : QB k x) : Bd k (x.den : Int) := by unfold Bd; rw [Int.natAbs_natCast]; exact h.d
theorem QB.mono {k l : Nat} {x : Rat} (h : QB k x) (hl : k ≤ l) : QB l x := ⟨h.n.mono hl, Nat.lt_of_lt_of_le h.d (Nat.pow_le_pow_right (by decide) hl)⟩
theorem den_pos' (x : Rat) : (0 : Int) < x.den := by have := x.den_pos; omega
theorem sign_pos {q : Int} (h : 0 < q) : q.sign = 1 := Int.sign_eq_one_of_pos h
/-- (p // g, q // g) -/
theorem frQ_div {p q : Int} (hq : 0 < q) : D.nd .tup [.int (p / (Int.gcd p q : Nat)), .int (q / (Int.gcd p q : Nat))] = frQ (Rat.divInt p q) := by
  unfold frQ
  rw [Rat.num_divInt, Rat.den_divInt, sign_pos hq, Int.one_mul, Int.gcd_comm q p, if_neg (by omega)]
  have : ((q.natAbs / Int.gcd p q : Nat) : Int) = q / (Int.gcd p q : Nat) := by
    rw [Int.natCast_ediv]
    congr 1
    omega
  rw [this]
theorem divInt_neg2 (p q : Int) : Rat.divInt (-p) (-q) = Rat.divInt p q := by
  rw [Rat.divInt_eq_div, Rat.divInt_eq_div, Rat.intCast_neg, Rat.intCast_neg]
  rw [Rat.div_def, Rat.div_def]
  grind
theorem QB.div {k : Nat} {p q : Int} (h1 : Bd k p) (h2 : Bd k q) (hq : 0 < q) : QB k (Rat.divInt p q) := by
  refine ⟨?_, ?_⟩
  · rw [Rat.num_divInt, sign_pos hq, Int.one_mul]
    exact h1.le (Int.natAbs_ediv_le_natAbs _ _)
  · rw [Rat.den_divInt, if_neg (by omega)]
    exact Nat.lt_of_le_of_lt (Nat.div_le_self _ _) h2
theorem q_add (x y : Rat) : Rat.divInt (x.num * y.den + y.num * x.den) (x.den * y.den) = x + y := by
  rw [Rat.add_def', ← Rat.divInt_ofNat, Int.natCast_mul]
theorem q_sub (x y : Rat) : Rat.divInt (x.num * y.den - y.num * x.den) (x.den * y.den) = x - y := by
  rw [Rat.sub_def', ← Rat.divInt_ofNat, Int.natCast_mul]
theorem q_mul (x y : Rat) : Rat.divInt (x.num * y.num) (x.den * y.den) = x * y := by
  rw [Rat.mul_def', ← Rat.divInt_ofNat, Int.natCast_mul]
theorem q_self (x : Rat) : Rat.divInt x.num x.den = x := by rw [Rat.divInt_ofNat, Rat.mkRat_self]
theorem q_over (x y : Rat) : Rat.divInt (x.num * y.den) (x.den * y.num) = x / y := by
  rw [Rat.div_def, Rat.inv_def, ← Rat.divInt_mul_divInt, q_self]
theorem QB.add {k l : Nat} {x y : Rat} (h1 : QB k x) (h2 : QB l y) : QB (k + l + 1) (x + y) := by
  rw [← q_add]
  refine QB.div (((h1.n.mul h2.db)).add ((h2.n.mul h1.db).mono (by omega))) ((h1.db.mul h2.db).mono (by omega)) (Int.mul_pos (den_pos' x) (den_pos' y))
theorem QB.sub {k l : Nat} {x y : Rat} (h1 : QB k x) (h2 : QB l y) : QB (k + l + 1) (x - y) := by
  rw [← q_sub]
  refine QB.div (((h1.n.mul h2.db)).sub ((h2.n.mul h1.db).mono (by omega))) ((h1.db.mul h2.db).mono (by omega)) (Int.mul_pos (den_pos' x) (den_pos' y))
theorem QB.mul {k l : Nat} {x y : Rat} (h1 : QB k x) (h2 : QB l y) : QB (k + l) (x * y) := by
  rw [← q_mul]
  exact QB.div (h1.n.mul h2.n) (h1.db.mul h2.db) (Int.mul_pos (den_pos' x) (den_pos' y))
theorem QB.neg {k : Nat} {x : Rat} (h : QB k x) : QB k (-x) := ⟨by rw [Rat.neg_num]; exact h.n.neg, by rw [Rat.neg_den]; exact h.d⟩
theorem q_pos (x y : Rat) : (0 : Int) < x.den * y.den := Int.mul_pos (den_pos' x) (den_pos' y)
/-! == of fractions -/
theorem dp_frQ {K : PySem.W.Frag} {G H : Hp} {as : List Addr} {v : V} {x : Rat} (sg : Same G H) (ve : VE K G as v (.d (frQ x))) : L2.Dp K H v (.tuple [.int x.num, .int x.den]) := by
  have ve : Rep K G v (.nd .tup [.int x.num, .int x.den]) := ve
  cases ve with
  | nd n r =>
    cases r with
    | cons a r =>
      cases r with
      | cons b r =>
        cases r
        cases a
        cases b
        exact .tup (n.mono sg) (.cons (.int _) (.cons (.int _) .nil))
theorem shaped_frQ (i j : Int) : SeqAt.shaped (.tuple [.int i, .int j]) = true := by rfl
theorem eqv_frQ (x y : Rat) : PyData.eqv (.tuple [.int x.num, .int x.den]) (.tuple [.int y.num, .int y.den]) = decide (x = y) := by
  show ((x.num == y.num) && (((x.den : Int) == (y.den : Int)) && true)) = _
  by_cases h : x = y
  · subst h; simp
  · rw [decide_eq_false h]
    by_cases h1 : x.num = y.num
    · have h2 : ¬ (x.den : Int) = y.den := fun z => h (Rat.ext h1 (by omega))
      simp [h2]
    · simp [h1]
theorem jr_eqQ {B : Nat} {x y : Rat} {Φ : E → S → Prop} (bx : Bx X B) (q : Φ (.d (.bl (decide (x = y)))) s) : JR X F (compareOp .Eq) (.d (frQ x)) (.d (frQ y)) s Φ :=
  jr_of (op_eqD bx.room.units) fun as G H σ v w Q c v1 v2 k =>
    ⟨_, _, dp_frQ c.sub v1, dp_frQ c.sub v2, shaped_frQ _ _, shaped_frQ _ _, by rw [eqv_frQ]; exact k _ as G H _ s c (Ext.refl _ _) (Rep.bl _) q⟩
theorem jr_neQ {B : Nat} {x y : Rat} {Φ : E → S → Prop} (bx : Bx X B) (q : Φ (.d (.bl (!decide (x = y)))) s) : JR X F (compareOp .NotEq) (.d (frQ x)) (.d (frQ y)) s Φ :=
  jr_of (op_neD bx.room.units) fun as G H σ v w Q c v1 v2 k =>
    ⟨_, _, dp_frQ c.sub v1, dp_frQ c.sub v2, shaped_frQ _ _, shaped_frQ _ _, by rw [eqv_frQ]; exact k _ as G H _ s c (Ext.refl _ _) (Rep.bl _) q⟩
end DL
namespace DL
open PySem PySem.Spec PyProof.Rows L2
/-! ### finite maps by text, as lists of pairs -/
abbrev FM (α : Type) := List (Str × α)
variable {α : Type} {f : α → D}
abbrev FM.ks (m : FM α) : List Str := m.map (·.1)
def FM.get (m : FM α) (k : Str) : Option α := (m.find? fun p => decide (p.1 = k)).map (·.2)
def FM.put (m : FM α) (k : Str) (v : α) : FM α := if k ∈ m.ks then m.map (fun p => if p.1 = k then (p.1, v) else p) else m ++ [(k, v)]
def fmK (m : FM α) : List Key := m.ks.map Sum.inr
def fmV (f : α → D) (m : FM α) : List D := m.map fun p => f p.2
def fmD (f : α → D) (m : FM α) : D := .nd (.dct (fmK m)) (fmV f m)
theorem fmK_len (m : FM α) : (fmK m).length = m.length := by unfold fmK FM.ks; simp
theorem fmV_len (m : FM α) : (fmV f m).length = m.length := by unfold fmV; simp
theorem fmK_mem {m : FM α} {k : Str} : (Sum.inr k : Key) ∈ fmK m ↔ k ∈ m.ks := by
  unfold fmK
  constructor
  · intro h
    obtain ⟨a, h1, h2⟩ := List.mem_map.mp h
    cases h2; exact h1
  · intro h; exact List.mem_map_of_mem h
theorem fmK_nd {m : FM α} (h : m.ks.Nodup) : (fmK m).Nodup := nodup_inr h
theorem fm_lk (m : FM α) (k : Str) : lk ((fmK m).zip ((fmV f m).map E.d)) (.inr k) = (m.get k).map fun v => .d (f v) := by
  unfold FM.get lk fmK fmV FM.ks
  induction m with
  | nil => rfl
  | cons p m ih =>
    simp only [List.map_cons, List.zip_cons_cons]
    by_cases h : p.1 = k
    · rw [List.find?_cons_of_pos (by simp [h]), List.find?_cons_of_pos (by simp [h])]; rfl
    · rw [List.find?_cons_of_neg (by simp [h]), List.find?_cons_of_neg (by simp [h])]; exact ih
theorem fm_mem (m : FM α) (k : Str) : memK (.inr k) (fmK m) = decide (k ∈ m.ks) := by
  by_cases h : k ∈ m.ks
  · rw [memK_iff.mpr (fmK_mem.mpr h), decide_eq_true h]
  · rw [decide_eq_false h]
    cases q : memK (.inr k) (fmK m) with
    | false => rfl
    | true => exact absurd (fmK_mem.mp (memK_iff.mp q)) h
theorem FM.put_old {m : FM α} {k : Str} {v : α} (h : k ∈ m.ks) : m.put k v = m.map (fun p => if p.1 = k then (p.1, v) else p) := if_pos h
theorem FM.put_new {m : FM α} {k : Str} {v : α} (h : k ∉ m.ks) : m.put k v = m ++ [(k, v)] := if_neg h
theorem FM.ks_put {m : FM α} {k : Str} {v : α} : (m.put k v).ks = if k ∈ m.ks then m.ks else m.ks ++ [k] := by
  unfold FM.put
  split
  · unfold FM.ks
    rw [List.map_map]
    apply List.map_congr_left
    intro p _
    simp only [Function.comp]
    split <;> rfl
  · unfold FM.ks; simp
theorem fm_dpK {m : FM α} {k : Str} {v : α} : dpK (fmK m) (.inr k) = fmK (m.put k v) := by
  by_cases h : k ∈ m.ks
  · rw [dpK_old (fmK_mem.mpr h)]
    unfold fmK
    rw [FM.ks_put, if_pos h]
  · rw [dpK_new (fun z => h (fmK_mem.mp z))]
    unfold fmK
    rw [FM.ks_put, if_neg h, List.map_append]; rfl
theorem fm_dpV {m : FM α} {k : Str} {v : α} : dpV (fmK m) ((fmV f m).map E.d) (.inr k) (.d (f v)) = (fmV f (m.put k v)).map E.d := by
  by_cases h : k ∈ m.ks
  · unfold dpV
    rw [if_pos (memK_iff.mpr (fmK_mem.mpr h)), FM.put_old h]
    unfold fmK fmV FM.ks
    clear h
    induction m with
    | nil => rfl
    | cons p m ih =>
      simp only [List.map_cons, List.zip_cons_cons]
      rw [ih]
      congr 1
      by_cases h : p.1 = k
      · simp [h]
      · have h2 : ¬ (Sum.inr p.1 : Key) = Sum.inr k := fun z => h (by cases z; rfl)
        simp only [h, h2, if_false]
  · rw [dpV_new (fun z => h (fmK_mem.mp z)), FM.put_new h]
    unfold fmV; simp
theorem FM.put_nd {m : FM α} {k : Str} {v : α} (h : m.ks.Nodup) : (m.put k v).ks.Nodup := by
  rw [FM.ks_put]
  split
  · exact h
  · rename_i hk
    rw [List.nodup_append]
    exact ⟨h, by simp, fun a ha b hb e => by
      have : b = k := by simpa using hb
      subst this; subst e; exact hk ha⟩
theorem FM.put_len {m : FM α} {k : Str} {v : α} : (m.put k v).length ≤ m.length + 1 := by
  unfold FM.put
  split <;> simp
theorem FM.get_mem {m : FM α} {k : Str} {v : α} (h : m.get k = some v) : (k, v) ∈ m := by
  unfold FM.get at h
  cases q : m.find? fun p => decide (p.1 = k) with
  | none => rw [q] at h; cases h
  | some p =>
    rw [q] at h
    cases h
    have h1 := List.mem_of_find?_eq_some q
    have h2 : p.1 = k := by have := List.find?_some q; simpa using this
    rw [← h2]; exact h1
theorem FM.get_in {m : FM α} {k : Str} : (m.get k).isSome = true ↔ k ∈ m.ks := by
  unfold FM.get FM.ks
  induction m with
  | nil => simp
  | cons p m ih =>
    by_cases h : p.1 = k
    · rw [List.find?_cons_of_pos (by simp [h])]; simp [h]
    · rw [List.find?_cons_of_neg (by simp [h]), List.map_cons, List.mem_cons, ih]
      constructor
      · intro z; exact .inr z
      · intro z; exact z.resolve_left fun q => h q.symm
theorem FM.get_at {m : FM α} {i : Nat} {p : Str × α} (nd : m.ks.Nodup) (h : m[i]? = some p) : m.get p.1 = some p.2 := by
  unfold FM.get
  induction m generalizing i with
  | nil => simp at h
  | cons q m ih =>
    cases i with
    | zero => simp at h; subst h; rw [List.find?_cons_of_pos (by simp)]; rfl
    | succ i =>
      simp at h
      have hn : q.1 ≠ p.1 := fun z => (List.nodup_cons.mp nd).1 (by show q.1 ∈ _; rw [z]; exact List.mem_map_of_mem (List.mem_of_getElem? h))
      rw [List.find?_cons_of_neg (by simp [hn])]
      exact ih (List.nodup_cons.mp nd).2 h
/-- every value bears Pr -/
def FM.All (Pr : α → Prop) (m : FM α) : Prop := ∀ p ∈ m, Pr p.2
theorem FM.All.put {Pr : α → Prop} {m : FM α} (h : m.All Pr) {k : Str} {v : α} (hv : Pr v) : (m.put k v).All Pr := by
  intro p hp
  unfold FM.put at hp
  split at hp
  · obtain ⟨q, h1, rfl⟩ := List.mem_map.mp hp
    split
    · exact hv
    · exact h q h1
  · rcases List.mem_append.mp hp with hp | hp
    · exact h p hp
    · have : p = (k, v) := by simpa using hp
      subst this; exact hv
theorem FM.All.get {Pr : α → Prop} {m : FM α} (h : m.All Pr) {k : Str} {v : α} (hg : m.get k = some v) : Pr v := h _ (FM.get_mem hg)
theorem FM.All.mono {Pr Qr : α → Prop} {m : FM α} (h : m.All Pr) (i : ∀ x, Pr x → Qr x) : m.All Qr := fun p hp => i _ (h p hp)
theorem fm_key {m : FM α} {i : Nat} {d : D} (h : ((fmK m).map kD)[i]? = some d) : ∃ p, m[i]? = some p ∧ d = .str p.1 := by
  unfold fmK FM.ks at h
  rw [List.getElem?_map, List.getElem?_map, List.getElem?_map] at h
  cases e : m[i]? with
  | none => rw [e] at h; cases h
  | some p => rw [e] at h; cases h; exact ⟨p, rfl, rfl⟩
theorem strs_ks (m : FM α) : fmK m = (m.ks).map Sum.inr := rfl
end DL
namespace DL
open PySem PySem.Spec PyProof.Rows L2
variable {X : Cx} {F : Fr} {s : S}
section
variable {elt iter kx vx c0 : Expr} {scope : Scope} {own : List (Str × Nat)} {pos p : Pos} {x : Str} {j B : Nat} {Φ : E → S → Prop}
/-- {k: v for x in iter if c}, pure: the dict, owned -/
theorem je_dcTO (bx : Bx X B) (ok : BlkOk X.N X.env.scope scope own) (hj : j ∈ own.map (·.2)) (hn : ∀ Y, IsBlk X scope Y → NmW Y j x)
    (h : DcT X F (.Name x p) iter c0 kx vx scope (own.map (·.2)) j s fun ks ds => Φ (.r s.ce.length) (s.push (.dct ks) (ds.map .d)))
    (hs : ∀ x, foldedSetIterable iter X.env x = pure x := by intro _; rfl) : JE X F (.DictComp kx vx [⟨.Name x p, iter, [c0], 0⟩] scope pos) s Φ := fun as G H σ Q c k =>
  sem_lock (PE.sem (pe_dc bx.calm bx.nd (pi_sem X _ iter) ok (pg_B hn) pts_B pe_B pe_B hs) (dcT_read hj h as G H σ _ c fun D as' G' H' vs ks ds c' x' hd gD nD h0 rs l nd q =>
    ⟨D, _, hd, trivial, fun od => by
      have c2 := (lay_dct (ks := ks) (vs := vs) (od := od) c' gD nD h0).grow (kd := .dct ks) gD nD h0 ⟨l, nd, od, upd_same⟩ (VEs.ofReps rs)
      exact k _ _ _ _ (.r s.ce.length) _ c2 (x'.trans ⟨pre_snoc, Same.refl _⟩) ⟨D, by rw [← c'.len, List.getElem?_append_right (Nat.le_refl _)]; simp, rfl⟩ q⟩))
end
theorem filter_getD {α β : Type} (g : α → Bool) (h : α → β) (d : α) (ys : List α) : ((List.range ys.length).filter fun i => g (ys.getD i d)).map (fun i => h (ys.getD i d)) = (ys.filter g).map h := by
  have e : ys = (List.range ys.length).map fun i => ys.getD i d := by
    have := range_getD (fun y : α => y) d ys
    rw [List.map_id'] at this
    exact this.symm
  conv => rhs; rw [e, List.filter_map, List.map_map]
  rfl
theorem dcT_getD {α : Type} {kf : α → Key} {f : α → D} {g : α → Bool} {d : α} {ys : List α} (h : (ys.map kf).Nodup) : dcT (fun i => kf (ys.getD i d)) (fun i => f (ys.getD i d)) (fun i => g (ys.getD i d)) ys.length = ((ys.filter g).map kf, (ys.filter g).map f) := by
  rw [dcT_inj]
  · rw [filter_getD, filter_getD]
  intro i j hij hj e
  have hi : i < ys.length := by omega
  have h1 : (ys.map kf)[i]? = some (kf (ys.getD i d)) := by rw [List.getElem?_map, List.getElem?_eq_getElem hi]; simp [List.getD, List.getElem?_eq_getElem hi]
  have h2 : (ys.map kf)[j]? = some (kf (ys.getD j d)) := by rw [List.getElem?_map, List.getElem?_eq_getElem hj]; simp [List.getD, List.getElem?_eq_getElem hj]
  have e : kf (ys.getD i d) = kf (ys.getD j d) := e
  rw [e] at h1
  have := nodup_get h h1 h2
  omega
end DL
namespace DL
open PySem PySem.Spec PyProof.Rows L2
variable {X : Cx} {F : Fr} {s : S}
/-! ### reading owned things as if frozen, while one expression makes a new list -/
def S.viewSl (s : S) : List (Option E) := s.sl.map fun o => match o with
  | none => none
  | some e => (s.view e).map E.d
theorem je_borrow {e : Expr} {Φ : E → S → Prop} (h : ∀ F', JE X F' e ⟨s.viewSl, [], 0⟩ fun e1 s1 => ∃ ds, e1 = .r 0 ∧ s1 = ⟨s.viewSl, [.nd .lst (ds.map .d)], 0⟩ ∧ D.imms ds = true ∧ Φ (.r s.ce.length) (s.push .lst (ds.map .d))) : JE X F e s Φ := fun as G H σ Q c k => by
  have c0 : Cz X ⟨lend s as G H, H, []⟩ [] (lend s as G H) H σ ⟨s.viewSl, [], 0⟩ := by
    refine ⟨lend_in c.sub, Same.refl _, fun _ h _ => h, fun _ _ h _ => h, rfl, List.prefix_refl _, List.nodup_nil, fun k a kd es h => by simp at h, fun a h => by simp at h, fun a h => by simp at h, fun k kd es h => ?_, fun i e he => ?_, ?_, rfl⟩
    · have h : ([] : List Cell)[k]? = some (.nd kd es) := h
      simp at h
    · have he : (s.viewSl)[i]? = some (some e) := he
      unfold S.viewSl at he
      rw [List.getElem?_map] at he
      cases q : s.sl[i]? with
      | none => rw [q] at he; cases he
      | some o =>
        rw [q] at he
        cases o with
        | none => cases he
        | some e0 =>
          have he : (s.view e0).map E.d = some e := Option.some.inj he
          cases q2 : s.view e0 with
          | none => rw [q2] at he; cases he
          | some d =>
            rw [q2] at he
            cases he
            obtain ⟨v, w1, w2⟩ := c.slots i e0 q
            exact ⟨v, w1, c.view w2 q2⟩
    · show s.viewSl.length = _
      unfold S.viewSl
      rw [List.length_map]; exact c.slen
  refine h _ [] _ H σ _ c0 fun v as' G' H' e1 s1 c' x ve ⟨ds, q1, q2, hi, q⟩ => ?_
  subst q1 q2
  obtain ⟨a, ha, rfl⟩ := ve
  obtain ⟨a', vs, g1, g2, g3⟩ := c'.cells 0 .lst (ds.map .d) rfl
  rw [ha] at g1
  cases g1
  have hG' : G' a = none := c'.own 0 a .lst _ ha rfl
  have hH : H a = none := (c'.fresh a (List.mem_of_getElem? ha)).resolve_left (by simp)
  have h1 : Same H H' := fun b o z => c'.frame b o z (by simp)
  have h2 : Same (lend s as G H) G' := c'.base
  -- what is frozen behind
  obtain ⟨G2, hG2, hG3⟩ : ∃ G2 : Hp, (∀ b, Alive s as b → G2 b = none) ∧ ∀ b, ¬ Alive s as b → G2 b = G' b := by
    classical
    exact ⟨fun b => if Alive s as b then none else G' b, fun b h => if_pos h, fun b h => if_neg h⟩
  have ga : ∀ {b : Addr}, Alive s as b → G b = none := fun {b} ⟨k, kd, es, w1, w2⟩ => c.own k b _ _ w1 w2
  have s1' : Same G G2 := fun b o q => by
    rw [hG3 b (fun z => by rw [ga z] at q; cases q)]
    exact h2 b o (lend_sub b o q)
  have s2' : Same G2 H' := fun b o q => by
    by_cases hb : Alive s as b
    · rw [hG2 b hb] at q; cases q
    · rw [hG3 b hb] at q; exact c'.sub b o q
  have s4' : ∀ b, G b = none → H b ≠ none → G2 b = none := fun b w1 w2 => by
    by_cases hb : Alive s as b
    · exact hG2 b hb
    · rw [hG3 b hb]
      exact c'.new b (lend_no w1 hb) w2
  have c2 := c.call h1 s1' s2' s4'
  have tups : ∀ a vs, Rd G' a (.tup vs) → Rd G2 a (.tup vs) := fun b ws hb => by
    have nb : ¬ Alive s as b := fun z => by
      have w0 := ga z
      obtain ⟨j, kd, es, hj, hcl⟩ := z
      obtain ⟨b', us, g1, g2, g3⟩ := c.cells j _ _ hcl
      rw [hj] at g1
      cases g1
      obtain ⟨o, ho⟩ := g2.some
      have hG' : G' b = some o := h2 b o (by rw [lend_yes w0 ⟨j, kd, es, hj, hcl⟩]; exact ho)
      have g2' : CellAt G' b us kd := g2.keep fun u q => by rw [ho] at q; cases q; exact hG'
      rcases hb with hb | ⟨oo, hb⟩
      · cases kd with
        | tup => exact g2'
        | lst => have : G' b = some (.lst us) := g2'; rw [hb] at this; cases this
        | dct ks => obtain ⟨_, _, _, this⟩ := g2'; rw [hb] at this; cases this
        | ins C fs => obtain ⟨_, _, this⟩ := g2'; rw [hb] at this; cases this
        | exc _ _ _ _ => exact g2'
      · cases kd with
        | tup => exact g2'
        | lst => have : G' b = some (.lst us) := g2'; rw [hb] at this; cases this
        | dct ks => obtain ⟨_, _, _, this⟩ := g2'; rw [hb] at this; cases this
        | ins C fs => obtain ⟨_, _, this⟩ := g2'; rw [hb] at this; cases this
        | exc _ _ _ _ => exact g2'
    rcases hb with hb | ⟨oo, hb⟩
    · exact .inl (by rw [hG3 b nb]; exact hb)
    · exact .inr ⟨oo, by rw [hG3 b nb]; exact hb⟩
  have gb : G2 a = none := by
    by_cases hb : Alive s as a
    · exact hG2 a hb
    · rw [hG3 a hb]; exact hG'
  have c3 := c2.grow (kd := .lst) (es := ds.map .d) gb (c.notin hH) (c.h0none hH) g2 (VEs.ofReps (imm_keeps tups _ _ g3.reps hi))
  exact k _ _ G2 H' (.r s.ce.length) _ c3 ⟨pre_snoc, s1'⟩ ⟨a, by rw [← c.len, List.getElem?_append_right (Nat.le_refl _)]; simp, rfl⟩ q
end DL
namespace DL
open PySem PySem.Spec PyProof.Rows L2
/-- a pair of whole numbers laid in the module -/
theorem XIs.gcQ {P : Program} {w : World} {K : PySem.W.Frag} {mg : Str → Option Value} {base : Heap} {N : List Str} {sc : Scope} {k : Nat} {x : Str} {a : Addr} {od : Option Addr} {sl : Array (Option Value)} {i j : Int} {t1 t2 : Tok} {n : Nat} (hm : mg x = some (.ref a)) (hl : K.lookup a = some ⟨.type "tuple", od, .seq #[.int i t1, .int j t2] n, sl⟩)
    (hd : (x == ("__debug__" : Str)) = false) {X : Cx} (hX : XIs X P w K mg base N sc k) (h : sc.names.lookup x = some .globalImplicit) : Gc X x (.nd .tup [.int i, .int j]) :=
  ⟨hX.gl h, ⟨.ref a, .ref a, by rw [hX.eM]; exact hm, rfl, .nd (k := .tup) (vs := [.int i, .int j]) (by
    rw [hX.eK]
    exact .inr ⟨_, _, n, hl, rfl, rfl, by rw [sizeLine_eq]; show 2 ≤ 16777216; decide, .cons ⟨t1, rfl⟩ (.cons ⟨t2, rfl⟩ .nil)⟩) (.cons (.int i) (.cons (.int j) .nil))⟩, hd⟩
end DL
namespace DL
open PySem PySem.Spec PyProof.Rows L2
section
variable {X : Cx} {F : Fr} {s : S} {tg iter : Expr} {body sts : List Stmt} {pos : Pos} {P : Po}
/-- a loop whose invariant is told after what it walks -/
theorem js_forE {B : Nat} (bx : Bx X B) (h : JI X F tg iter s fun n it s1 => ∃ In : Nat → S → Prop, In 0 s1 ∧ (∀ i v s', i < n → it i v → In i s' → Turn1 X F tg body P (In (i + 1)) v s') ∧ ∀ s', In n s' → P.nx s')
    (hs : ∀ x, foldedSetIterable iter X.env x = pure x := by intro _; rfl) : JS X F (.For tg iter body [] pos) s P := fun as G H σ D c k =>
  PS.sem (ps_for bx.po bx.calm (pi_sem X tg iter) (pg_sem X tg) (pss_sem X body) hs) (h as G H σ _ c fun J as1 G1 H1 s1 n it c1 x1 ok ⟨In, h0, ht, hd⟩ => by
    refine for_any (fun i σ' H' => ∃ as' G' s', Cz X F as' G' H' σ' s' ∧ Same G1 G' ∧ In i s') ⟨as1, G1, s1, c1, Same.refl _, h0⟩ (fun σ' H' ⟨as', G', s', c', x', _⟩ => ok.stop as' G' H' σ' s' c' x') (fun i σ' H' hi ⟨as', G', s', c', x', _⟩ => ok.go i as' G' H' σ' s' hi c' x')
      (fun i σ' H' hi ⟨as', G', s', c', x', q⟩ v H2 y => ?_) fun σ' H' ⟨as', G', s', c', x', q⟩ => k.nx as' G' H' σ' s' c' (x1.sub.trans x') (hd s' q)
    obtain ⟨G2, e, c2, ⟨x2, _⟩, ve, hv⟩ := ok.yld i as' G' H' σ' s' v H2 hi c' x' y
    have x3 : Same G1 G2 := x'.trans x2
    refine ht i e s' hi hv q as' G2 H2 σ' v _ c2 ve fun as3 G3 H3 σ3 s3 c3 x4 q3 => ?_
    refine q3 as3 G3 H3 σ3 _ c3 ⟨fun as5 G5 H5 σ5 s5 c5 x5 t => ⟨as5, G5, s5, c5, (x3.trans x4.sub).trans x5, t⟩, fun v as5 G5 H5 σ5 e5 s5 c5 x5 ve t => k.rt v as5 G5 H5 σ5 e5 s5 c5 (x1.sub.trans ((x3.trans x4.sub).trans x5)) ve t, fun as5 G5 H5 σ5 s5 c5 x5 t => k.nx as5 G5 H5 σ5 s5 c5 (x1.sub.trans ((x3.trans x4.sub).trans x5)) t,
      fun as5 G5 H5 σ5 s5 c5 x5 t => ⟨as5, G5, s5, c5, (x3.trans x4.sub).trans x5, t⟩⟩)
theorem jss_forE {B : Nat} (bx : Bx X B) (h : JI X F tg iter s fun n it s1 => ∃ In : Nat → S → Prop, In 0 s1 ∧ (∀ i v s', i < n → it i v → In i s' → JG X F tg v s' fun s2 => JSs X F body s2 { nx := In (i + 1), ct := In (i + 1), bk := fun s3 => JSs X F sts s3 P, rt := P.rt }) ∧ ∀ s', In n s' → JSs X F sts s' P)
    (hs : ∀ x, foldedSetIterable iter X.env x = pure x := by intro _; rfl) : JSs X F (.For tg iter body [] pos :: sts) s P := jss_cons (js_forE bx h hs)
end
end DL
namespace DL
open PySem PySem.Spec PyProof.Rows L2
/-! ### zip(a, b, strict=True) over two lists of one length -/
theorem F_tcz (a b : Value) : checkTypeCall "zip" ⟨[a, b], [(Str.ofString "strict", .bool true)]⟩ = pure () := by kernel_rfl
theorem F_ncz (a b : Value) : checkBuiltinCall "zip.__new__" ⟨[.type "zip", a, b], [(Str.ofString "strict", .bool true)]⟩ = pure () := by kernel_rfl
theorem F_aoz (obj a b : Value) : argsOk "object.__init__" ⟨[obj, a, b], [(Str.ofString "strict", .bool true)]⟩ := by unfold argsOk; kernel_rfl
/-- a strict zip -/
abbrev ZipS (h : Heap) (z TI TO : Addr) (f0 : Value) : Prop :=
  h.get? z = some { cls := .type "zip", dict := none, data := .fields #[f0, .bool false, .bool true, .ref TI, .ref TO], slots := #[] }
section
variable {prog : Program} {w : World} {A : Around} {E : Value → Shared → Prop} {s : Shared}
theorem nOE_item {it l : Addr} {i : Nat} {items : Array Value} {x : Value} {Q : Option Value → Shared → Prop} (hit : s.heap.IsListIter it l i) (hl : s.heap.IsList l items) (hx : items[i]? = some x)
    (hQ : ∀ h', h'.IsListIter it l (i + 1) → Heap.SameBut it s.heap h' → Q (some x) { s with heap := h' }) : wpAny (model prog w) A (Builtin.SmallTypes.nextOrEnd (.ref it)) Q E s := by
  unfold Builtin.SmallTypes.nextOrEnd
  exact wpAny_bind (wpAny_attempt (wpAny_nextOf_list_item hit hl hx fun h' a b => wpAny_pure (hQ h' a b)))
theorem nOE_end {it l : Addr} {i : Nat} {items : Array Value} {Q : Option Value → Shared → Prop} (hh : A.handled = none) (hit : s.heap.IsListIter it l i) (hl : s.heap.IsList l items) (hx : items[i]? = none)
    (hQ : ∀ h', Heap.ExtBut it s.heap h' → Q none { s with heap := h' }) : wpAny (model prog w) A (Builtin.SmallTypes.nextOrEnd (.ref it)) Q E s := by
  unfold Builtin.SmallTypes.nextOrEnd
  refine wpAny_bind (wpAny_attempt (wpAny_nextOf_list_end hh hit hl hx fun h' e k he => ?_))
  obtain ⟨o, ho, hc⟩ := he
  exact wpAny_bind (wpAny_isInstance (T := "StopIteration") (b := true) ⟨o, ho, hc⟩ isSubtype_stop (wpAny_pure (hQ h' k)))
theorem zs_item {z TI TO i1 i2 l1 l2 : Addr} {k1 k2 : Nat} {xs ys : Array Value} {x y a b : Value} {Q : Value → Shared → Prop} (D : ZipApart z TI TO i1 i2 l1 l2)
    (hz : ZipS s.heap z TI TO .none) (hTI : IsPair s.heap TI (.ref i1) (.ref i2)) (hTO : IsPair s.heap TO a b)
    (h1 : s.heap.IsListIter i1 l1 k1) (h2 : s.heap.IsListIter i2 l2 k2) (hl1 : s.heap.IsList l1 xs) (hl2 : s.heap.IsList l2 ys) (hx : xs[k1]? = some x) (hy : ys[k2]? = some y)
    (hQ : ∀ h', ZipS h' z TI TO (rawInt s.heap.objs.size) → IsPair h' TO x y → h'.IsListIter i1 l1 (k1 + 1) → h'.IsListIter i2 l2 (k2 + 1) → IsPair h' s.heap.objs.size x y → h'.objs.size = s.heap.objs.size + 1 →
      (∀ c o, c ≠ z → c ≠ TO → c ≠ i1 → c ≠ i2 → s.heap.get? c = some o → h'.get? c = some o) → Q (.ref s.heap.objs.size) { s with heap := h' }) :
    wpAny (model prog w) A (Builtin.«zip.__next__» ⟨[.ref z], []⟩) (fun fin s' => ∃ v, fin = .done (.ret v) ∧ Q v s') E s := by
  show wpAny _ _ (field (.ref z) 2 >>= _) _ _ _
  refine wpAny_bind (wpAny_field hz rfl (x := .bool true) rfl ?_)
  show wpAny _ _ (field (.ref z) 3 >>= _) _ _ _
  refine wpAny_bind (wpAny_field hz rfl (x := .ref TI) rfl (wpAny_bind (wpAny_seqItems hTI rfl ?_)))
  show wpAny _ _ (Builtin.SmallTypes.ownedTupleIsFree (.ref z) >>= _) _ _ _
  refine wpAny_bind ?_
  unfold Builtin.SmallTypes.ownedTupleIsFree
  refine wpAny_bind (wpAny_field hz rfl (x := .none) rfl (wpAny_pure ?_))
  simp only [if_true]
  refine wpAny_bind (wpAny_rule (wpAny_bind (wpAny_field hz rfl (x := .ref TO) rfl (wpAny_bind (wpAny_setField_rec hz (by simp) fun g1 z1 s1 => wpAny_bind ?_)))))
  replace z1 : ZipS g1 z TI TO .ellipsis := z1
  simp only [List.zipIdx_cons, List.zipIdx_nil, List.forIn_cons, List.forIn_nil]
  refine wpAny_bind (wpAny_bind (wpAny_onRaise ?_))
  show wpAny _ _ (Builtin.SmallTypes.nextOrEnd (.ref i1)) _ _ _
  refine nOE_item (h1.extBut s1.extBut D.i1z) (hl1.extBut s1.extBut D.l1z) hx fun g2 a2 s2 => ?_
  have t2 : IsPair g2 TO a b := s2.extBut _ _ D.TOi1 (s1.extBut _ _ D.TOz hTO)
  refine wpAny_bind (wpAny_seqItems t2 rfl (wpAny_bind (wpAny_updateSeq_pair t2 fun g3 t3 s3 => wpAny_bind (wpAny_letGo (wpAny_pure ?_)))))
  replace t3 : IsPair g3 TO x b := t3
  refine wpAny_bind (wpAny_bind (wpAny_onRaise ?_))
  show wpAny _ _ (Builtin.SmallTypes.nextOrEnd (.ref i2)) _ _ _
  refine nOE_item (((h2.extBut s1.extBut D.i2z).extBut s2.extBut D.i12.symm).extBut s3.extBut D.TOi2.symm) (((hl2.extBut s1.extBut D.l2z).extBut s2.extBut D.l2i1).extBut s3.extBut D.l2TO) hy fun g4 a4 s4 => ?_
  have t4 : IsPair g4 TO x b := s4.extBut _ _ D.TOi2 t3
  refine wpAny_bind (wpAny_seqItems t4 rfl (wpAny_bind (wpAny_updateSeq_pair t4 fun g5 t5 s5 => wpAny_bind (wpAny_letGo (wpAny_pure (wpAny_pure ?_))))))
  replace t5 : IsPair g5 TO x y := t5
  have ext : ∀ c o, c ≠ z → c ≠ TO → c ≠ i1 → c ≠ i2 → s.heap.get? c = some o → g5.get? c = some o := fun c o n1 n2 n3 n4 q =>
    s5.extBut _ _ n2 (s4.extBut _ _ n4 (s3.extBut _ _ n2 (s2.extBut _ _ n3 (s1.extBut _ _ n1 q))))
  have zz : g5.objs.size = s.heap.objs.size := by rw [s5.1, s4.1, s3.1, s2.1, s1.1]
  have z5 : ZipS g5 z TI TO .ellipsis := s5.extBut _ _ D.TOz.symm (s4.extBut _ _ D.i2z.symm (s3.extBut _ _ D.TOz.symm (s2.extBut _ _ D.i1z.symm z1)))
  have b1 : g5.IsListIter i1 l1 (k1 + 1) := ((a2.extBut s3.extBut D.TOi1.symm).extBut s4.extBut D.i12).extBut s5.extBut D.TOi1.symm
  have b2 : g5.IsListIter i2 l2 (k2 + 1) := a4.extBut s5.extBut D.TOi2.symm
  refine wpAny_bind (wpAny_seqItems t5 rfl (wpAny_bind (wpAny_newTuple ?_)))
  show wpAny _ _ (Builtin.SmallTypes.ownedTupleHandOut (.ref z) (.ref g5.objs.size) >>= _) _ _ _
  refine wpAny_bind ?_
  unfold Builtin.SmallTypes.ownedTupleHandOut
  have z6 : ZipS (g5.push { cls := .type "tuple", data := .seq #[x, y] }) z TI TO .ellipsis := Heap.get?_push_of_some _ z5
  refine wpAny_bind (wpAny_setField_rec z6 (by simp) fun g7 z7 s7 => ?_)
  replace z7 : ZipS g7 z TI TO (rawInt g5.objs.size) := z7
  refine wpAny_setField_rec z7 (by simp) fun g8 z8 s8 => ?_
  replace z8 : ZipS g8 z TI TO (rawInt g5.objs.size) := z8
  have up : ∀ c o, c ≠ z → g5.get? c = some o → g8.get? c = some o := fun c o n q => s8.extBut _ _ n (s7.extBut _ _ n (Heap.get?_push_of_some _ q))
  have zl : z < g5.objs.size := Heap.lt_size z5
  have t8 : IsPair g8 g5.objs.size x y := s8.extBut _ _ (Nat.ne_of_gt zl) (s7.extBut _ _ (Nat.ne_of_gt zl) (Heap.get?_push_size _ rfl))
  have w8 : g8.objs.size = g5.objs.size + 1 := by rw [s8.1, s7.1, Heap.size_push]
  refine wpAny_pure ⟨_, rfl, ?_⟩
  show Q (.ref g5.objs.size) _
  rw [zz] at z8 t8 w8 ⊢
  exact hQ g8 z8 (up _ _ D.TOz t5) (b1.at fun o q => up _ o D.i1z q) (b2.at fun o q => up _ o D.i2z q) t8 w8 fun c o n1 n2 n3 n4 q => up c o n1 (ext c o n1 n2 n3 n4 q)
theorem zs_end {z TI TO i1 i2 l1 l2 : Addr} {k1 k2 : Nat} {xs ys : Array Value} {a b : Value} {Q : Fin → Shared → Prop} (hh : A.handled = none) (D : ZipApart z TI TO i1 i2 l1 l2)
    (hz : ZipS s.heap z TI TO .none) (hTI : IsPair s.heap TI (.ref i1) (.ref i2)) (hTO : IsPair s.heap TO a b)
    (h1 : s.heap.IsListIter i1 l1 k1) (h2 : s.heap.IsListIter i2 l2 k2) (hl1 : s.heap.IsList l1 xs) (hl2 : s.heap.IsList l2 ys) (hx : xs[k1]? = none) (hy : ys[k2]? = none)
    (hE : ∀ h' e, (∀ c o, c ≠ z → c ≠ TO → c ≠ i1 → c ≠ i2 → s.heap.get? c = some o → h'.get? c = some o) → (∃ o, h'.get? e = some o ∧ o.cls = .type "StopIteration") → E (.ref e) { s with heap := h' }) :
    wpAny (model prog w) A (Builtin.«zip.__next__» ⟨[.ref z], []⟩) Q E s := by
  show wpAny _ _ (field (.ref z) 2 >>= _) _ _ _
  refine wpAny_bind (wpAny_field hz rfl (x := .bool true) rfl ?_)
  show wpAny _ _ (field (.ref z) 3 >>= _) _ _ _
  refine wpAny_bind (wpAny_field hz rfl (x := .ref TI) rfl (wpAny_bind (wpAny_seqItems hTI rfl ?_)))
  show wpAny _ _ (Builtin.SmallTypes.ownedTupleIsFree (.ref z) >>= _) _ _ _
  refine wpAny_bind ?_
  unfold Builtin.SmallTypes.ownedTupleIsFree
  refine wpAny_bind (wpAny_field hz rfl (x := .none) rfl (wpAny_pure ?_))
  simp only [if_true]
  refine wpAny_bind (wpAny_rule (wpAny_bind (wpAny_field hz rfl (x := .ref TO) rfl (wpAny_bind (wpAny_setField_rec hz (by simp) fun g1 z1 s1 => wpAny_bind ?_)))))
  replace z1 : ZipS g1 z TI TO .ellipsis := z1
  simp only [List.zipIdx_cons, List.zipIdx_nil, List.forIn_cons, List.forIn_nil]
  refine wpAny_bind (wpAny_bind (wpAny_onRaise ?_))
  show wpAny _ _ (Builtin.SmallTypes.nextOrEnd (.ref i1)) _ _ _
  refine nOE_end hh (h1.extBut s1.extBut D.i1z) (hl1.extBut s1.extBut D.l1z) hx fun g2 s2 => ?_
  have z2 : ZipS g2 z TI TO .ellipsis := s2 _ _ D.i1z.symm z1
  refine wpAny_bind (wpAny_setField_rec z2 (by simp) fun g3 z3 s3 => ?_)
  replace z3 : ZipS g3 z TI TO .none := z3
  refine wpAny_bind ?_
  refine wpAny_bind ?_
  simp only [List.drop_succ_cons, List.drop_zero, List.zipIdx_cons, List.zipIdx_nil, List.forIn_cons, List.forIn_nil]
  refine wpAny_bind (wpAny_bind ?_)
  refine nOE_end hh (((h2.extBut s1.extBut D.i2z).extBut s2 D.i12.symm).extBut s3.extBut D.i2z) (((hl2.extBut s1.extBut D.l2z).extBut s2 D.l2i1).extBut s3.extBut D.l2z) hy fun g4 s4 => ?_
  simp only [Option.isSome_none, Bool.false_eq_true, if_false]
  refine wpAny_pure (wpAny_pure ?_)
  refine wpAny_bind (wpAny_rule ?_)
  unfold Builtin.SmallTypes.stopIteration
  show wpAny _ _ (newExc (.type "StopIteration") [] >>= _) _ _ _
  refine wpAny_bind ?_
  simp only [newExc, newTuple]
  refine wpAny_bind (wpAny_newObj_type ?_ (by size_fits))
  refine wpAny_bind (m := firstArgMember _ _) (wpAny_of_eq (a := Value.none) (by first | rfl | (simp only [firstArgMember]; rfl)) ?_)
  refine wpAny_newObj_type ?_ (by size_fits)
  simp only [raiseNew]
  refine wpAny_bind (wpAny_handled ?_)
  rw [hh]
  refine wpAny_throw ?_
  exact hE _ _ (fun c o n1 _ n3 n4 q => Heap.get?_push_of_some _ (Heap.get?_push_of_some _ (s4 _ _ n4 (s3.extBut _ _ n1 (s2 _ _ n3 (s1.extBut _ _ n1 q)))))) ⟨_, Heap.get?_push_size _ rfl, rfl⟩
theorem zs_next_item {z TI TO i1 i2 l1 l2 : Addr} {k1 k2 : Nat} {xs ys : Array Value} {x y a b : Value} {Q : Option Value → Shared → Prop} (D : ZipApart z TI TO i1 i2 l1 l2)
    (hz : ZipS s.heap z TI TO .none) (hTI : IsPair s.heap TI (.ref i1) (.ref i2)) (hTO : IsPair s.heap TO a b)
    (h1 : s.heap.IsListIter i1 l1 k1) (h2 : s.heap.IsListIter i2 l2 k2) (hl1 : s.heap.IsList l1 xs) (hl2 : s.heap.IsList l2 ys) (hx : xs[k1]? = some x) (hy : ys[k2]? = some y)
    (hQ : ∀ h', ZipS h' z TI TO (rawInt s.heap.objs.size) → IsPair h' TO x y → h'.IsListIter i1 l1 (k1 + 1) → h'.IsListIter i2 l2 (k2 + 1) → IsPair h' s.heap.objs.size x y → h'.objs.size = s.heap.objs.size + 1 →
      (∀ c o, c ≠ z → c ≠ TO → c ≠ i1 → c ≠ i2 → s.heap.get? c = some o → h'.get? c = some o) → Q (some (.ref s.heap.objs.size)) { s with heap := h' }) :
    wpAny (model prog w) A (pyNext (.ref z)) Q E s := by
  have hT : s.TypeIs (.ref z) "zip" := ⟨_, hz, rfl⟩
  unfold pyNext
  exact wpAny_bind (wpAny_attempt (wpAny_callSpecial?_slot (name := Str.ofString "__next__") hT F.slot_zip_next
    (wpAny_call_entry F.slot_zip_next hT F.entry_zip_next (zs_item D hz hTI hTO h1 h2 hl1 hl2 hx hy fun h' a1 a2 a3 a4 a5 a6 a7 => wpAny_pure (hQ h' a1 a2 a3 a4 a5 a6 a7)) (F.args_zip_next_1 _))))
theorem zs_next_end {z TI TO i1 i2 l1 l2 : Addr} {k1 k2 : Nat} {xs ys : Array Value} {a b : Value} {Q : Option Value → Shared → Prop} (hh : A.handled = none) (D : ZipApart z TI TO i1 i2 l1 l2)
    (hz : ZipS s.heap z TI TO .none) (hTI : IsPair s.heap TI (.ref i1) (.ref i2)) (hTO : IsPair s.heap TO a b)
    (h1 : s.heap.IsListIter i1 l1 k1) (h2 : s.heap.IsListIter i2 l2 k2) (hl1 : s.heap.IsList l1 xs) (hl2 : s.heap.IsList l2 ys) (hx : xs[k1]? = none) (hy : ys[k2]? = none)
    (hQ : ∀ h', (∀ c o, c ≠ z → c ≠ TO → c ≠ i1 → c ≠ i2 → s.heap.get? c = some o → h'.get? c = some o) → Q none { s with heap := h' }) : wpAny (model prog w) A (pyNext (.ref z)) Q E s := by
  have hT : s.TypeIs (.ref z) "zip" := ⟨_, hz, rfl⟩
  unfold pyNext
  refine wpAny_bind (wpAny_attempt (wpAny_callSpecial?_slot (name := Str.ofString "__next__") hT F.slot_zip_next
    (wpAny_call_entry F.slot_zip_next hT F.entry_zip_next (zs_end hh D hz hTI hTO h1 h2 hl1 hl2 hx hy fun h' e hk he => ?_) (F.args_zip_next_1 _))))
  obtain ⟨o, ho, hc⟩ := he
  exact wpAny_bind (wpAny_isInstance (T := "StopIteration") (b := true) ⟨o, ho, hc⟩ isSubtype_stop (wpAny_pure (hQ _ hk)))
theorem zs_go {elts : List Expr} {x1 : Nat} {pos : Pos} {z TI TO T : Addr} {Q : Unit → Shared → Prop} (hz : ZipS s.heap z TI TO (rawInt T))
    (hQ : ∀ h', ZipS h' z TI TO .none → Heap.SameBut z s.heap h' → Q () { s with heap := h' }) : wpAny (model prog w) A (letOwnedTupleGo (.Tuple elts x1 pos) (.ref z) (.ref T)) Q E s := by
  unfold letOwnedTupleGo
  refine wpAny_bind (wpAny_load hz ?_)
  show wpAny _ _ (if (["enumerate", "zip", "dict_itemiterator", "dict_reverseitemiterator", "odict_iterator", "itertools.zip_longest", "itertools.pairwise"].contains "zip" &&
      (#[rawInt T, .bool false, .bool true, .ref TI, .ref TO] : Array Value)[0]? == some (rawInt T)) = true then _ else _) Q E s
  rw [if_pos (by simp)]
  refine wpAny_bind (wpAny_rule ?_)
  show wpAny _ _ (setField (.ref z) 0 .none) Q E s
  exact wpAny_setField_rec hz (by simp) fun h' hz' hs' => hQ h' hz' hs'
theorem zs_iter {z TI TO : Addr} {f0 : Value} {Q : Value → Shared → Prop} (hz : ZipS s.heap z TI TO f0) (h : Q (.ref z) s) : wpAny (model prog w) A (pyIter (.ref z)) Q E s := by
  have hT : s.TypeIs (.ref z) "zip" := ⟨_, hz, rfl⟩
  refine wpAny_pyIter_slot hT F.slot_zip_iter (wpAny_call_entry F.slot_zip_iter hT F.entry_zip_iter ?_ (F.args_zip_iter_1 _))
  show wpAny _ _ (ret (.ref z)) _ _ s
  exact wpAny_pure ⟨_, rfl, "zip", _, hT, F.slot_zip_next.lookup, h⟩
end
abbrev zipS5 (h : Heap) (l1 l2 : Addr) : Heap := (zipH4 h l1 l2).push { cls := .type "zip", data := .fields #[.none, .bool false, .bool true, .ref (zipH2 h l1 l2).objs.size, .ref (zipH3 h l1 l2).objs.size] }
theorem meets_zipS (l1 l2 : Addr) (xs ys : Array Value) :
    Meets (Builtin.«zip.__new__» ⟨[.type "zip", .ref l1, .ref l2], [(Str.ofString "strict", .bool true)]⟩) (fun _ R s => s.heap.IsList l1 xs ∧ s.heap.IsList l2 ys ∧
      R (.ok (.ret (.ref (zipH4 s.heap l1 l2).objs.size))) { s with heap := zipS5 s.heap l1 l2 }) :=
  .of_wp fun prog w A R s h => by
    obtain ⟨hp, g, d, tk, os⟩ := s; obtain ⟨hl1, hl2, h⟩ := h
    have hsub := sub_zip
    have e1 : (Str.ofString "strict" != ("strict" : Str)) = false := by decide +kernel
    have hL1 : Heap.IsList (Shared.heap ⟨hp, g, d, tk, os⟩) l1 xs := hl1
    have hL2 : Heap.IsList (Shared.heap ⟨hp.push { cls := .type "list_iterator", data := .fields #[.ref l1, .int 0 0] }, g, d, tk, os⟩) l2 ys := Heap.IsList.push hl2 _
    wp_walk using wpAny_pyIter_list hL1, wpAny_pyIter_list hL2
    exact ⟨_, rfl, h⟩
section
variable {prog : Program} {w : World} {A : Around} {E : Value → Shared → Prop} {s : Shared}
/-- the call: two iterators, two tuples, the zip -/
theorem call_zipS {l1 l2 : Addr} {xs ys : Array Value} {Q : Value → Shared → Prop} (hl1 : s.heap.IsList l1 xs) (hl2 : s.heap.IsList l2 ys)
    (h : ∀ h', ZipS h' (s.heap.objs.size + 4) (s.heap.objs.size + 2) (s.heap.objs.size + 3) .none → IsPair h' (s.heap.objs.size + 2) (.ref s.heap.objs.size) (.ref (s.heap.objs.size + 1)) →
      IsPair h' (s.heap.objs.size + 3) .none .none → h'.IsListIter s.heap.objs.size l1 0 → h'.IsListIter (s.heap.objs.size + 1) l2 0 → (∀ c o, s.heap.get? c = some o → h'.get? c = some o) → Q (.ref (s.heap.objs.size + 4)) { s with heap := h' }) :
    wpAny (model prog w) A (call (.type "zip") [.ref l1, .ref l2] [(Str.ofString "strict", .bool true)]) Q E s := by
  refine callType_newKw F.called_zip (by decide) (F_tcz _ _) (F_ncz _ _) (fun obj => F_aoz obj _ _) F.entry_zip_new (meets_zipS l1 l2 xs ys) ⟨hl1, hl2, ?_⟩
  have n1 : (zipH1 s.heap l1).objs.size = s.heap.objs.size + 1 := Heap.size_push ..
  have n2 : (zipH2 s.heap l1 l2).objs.size = s.heap.objs.size + 2 := by rw [Heap.size_push, n1]
  have n3 : (zipH3 s.heap l1 l2).objs.size = s.heap.objs.size + 3 := by rw [Heap.size_push, n2]
  have n4 : (zipH4 s.heap l1 l2).objs.size = s.heap.objs.size + 4 := by rw [Heap.size_push, n3]
  have old : ∀ c o, s.heap.get? c = some o → (zipH4 s.heap l1 l2).get? c = some o := fun c o q => Heap.get?_push_of_some _ (Heap.get?_push_of_some _ (Heap.get?_push_of_some _ (Heap.get?_push_of_some _ q)))
  have g5 : (zipS5 s.heap l1 l2).get? (zipH4 s.heap l1 l2).objs.size = some _ := Heap.get?_push_size _ rfl
  have g4 : (zipS5 s.heap l1 l2).get? (zipH3 s.heap l1 l2).objs.size = some _ := Heap.get?_push_of_some _ (Heap.get?_push_size _ rfl)
  have g3 : (zipS5 s.heap l1 l2).get? (zipH2 s.heap l1 l2).objs.size = some _ := Heap.get?_push_of_some _ (Heap.get?_push_of_some _ (Heap.get?_push_size _ rfl))
  have g2 : (zipS5 s.heap l1 l2).get? (zipH1 s.heap l1).objs.size = some _ := Heap.get?_push_of_some _ (Heap.get?_push_of_some _ (Heap.get?_push_of_some _ (Heap.get?_push_size _ rfl)))
  have g1 : (zipS5 s.heap l1 l2).get? s.heap.objs.size = some _ := Heap.get?_push_of_some _ (Heap.get?_push_of_some _ (Heap.get?_push_of_some _ (Heap.get?_push_of_some _ (Heap.get?_push_size _ rfl))))
  show _ ∧ _
  rw [n2, n3, n4] at g5
  rw [n1, n2] at g3
  rw [n3] at g4
  rw [n1] at g2
  rw [n4]
  exact ⟨⟨_, g5, rfl⟩, h _ g5 g3 g4 ⟨_, g1, rfl, rfl⟩ ⟨_, g2, rfl, rfl⟩ fun c o q => Heap.get?_push_of_some _ (old c o q)⟩
end
/-- a class called with keywords -/
theorem callWith_tk {M : Model} {A : Around} {E : Value → Shared → Prop} {s : Shared} {pos : Pos} {T : String} {first : List Value} {args : List (Bool × Sem Value)} {kws : List (Option Str × Sem Value)} {Q : Value → Shared → Prop}
    (hplain : args.any (·.1) = false) (hkw : kws.any (·.1.isNone) = false)
    (h : wpAny M A (evalArgs (.type T) true args kws) (fun a s₁ => wpAny M A (call (.type T) (first ++ a.pos) a.kw) Q E s₁) E s) : wpAny M A (callWith pos (.type T) first args kws) Q E s := by
  unfold callWith
  refine wpAny_bind (wpAny_holding (wpAny_mono h (fun a s₁ h₁ => wpAny_bind (wpAny_standAt ?_)) fun _ _ x => x))
  simp only [hplain, hkw, Bool.or_false]
  refine wpAny_bind (wpAny_pure ?_)
  exact wpAny_bind (wpAny_mono h₁ (fun r s₂ hr => wpAny_bind (wpAny_holding (wpAny_point (wpAny_pure hr)))) fun _ _ x => x)
/-- the lists at a and b, of one length, item by item in new pairs -/
def ItzS (K : PySem.W.Frag) (a b : Addr) : It :=
  ⟨(Itz K a b).go, (Itz K a b).yld, fun i H => ∃ xs ys : List V, SqL K H a xs ∧ SqL K H b ys ∧ xs.length ≤ i ∧ ys.length ≤ i⟩
theorem turn_zipS {P : Program} {w : World} {K : PySem.W.Frag} {elts : List Expr} {kk : Nat} {tpos : Pos} {a b z TI TO i1 i2 : Addr} (D : ZipApart z TI TO i1 i2 a b) :
    Turn P w K (.Tuple elts kk tpos) (ItzS K a b) [z, TI, TO, i1, i2] z (fun i h => ZipS h z TI TO .none ∧ IsPair h TI (.ref i1) (.ref i2) ∧ (∃ x y, IsPair h TO x y) ∧ h.IsListIter i1 a i ∧ h.IsListIter i2 b i) where
  mem := by simp
  obj := fun i h st c hc => by
    obtain ⟨hz, hTI, ⟨x, y, hTO⟩, ⟨o1, e1, _, d1⟩, ⟨o2, e2, _, d2⟩⟩ := st
    simp only [List.mem_cons, List.not_mem_nil, or_false] at hc
    rcases hc with q | q | q | q | q <;> rw [q]
    · exact ⟨_, hz, fun v q => nomatch q⟩
    · exact ⟨_, hTI, fun v q => nomatch q⟩
    · exact ⟨_, hTO, fun v q => nomatch q⟩
    · exact ⟨o1, e1, fun v q => by rw [d1] at q; cases q⟩
    · exact ⟨o2, e2, fun v q => by rw [d2] at q; cases q⟩
  keep := fun i h h' st k => by
    obtain ⟨hz, hTI, ⟨x, y, hTO⟩, h1, h2⟩ := st
    exact ⟨k z (by simp) _ hz, k TI (by simp) _ hTI, ⟨x, y, k TO (by simp) _ hTO⟩, h1.at fun o q => k i1 (by simp) o q, h2.at fun o q => k i2 (by simp) o q⟩
  item := by
    intro X hP hw hK hc i pins s σ H E I hf st hg
    subst hP hw hK
    obtain ⟨hz, hTI, ⟨x0, y0, hTO⟩, h1, h2⟩ := st
    obtain ⟨xs, ys, x, y, hqx, hqy, hx, hy⟩ := hg
    obtain ⟨its, rv, p, _⟩ := I.list hqx
    obtain ⟨its2, rv2, p2, _⟩ := I.list hqy
    obtain ⟨u, hu, ru⟩ := rv.get hx
    obtain ⟨u2, hu2, ru2⟩ := rv2.get hy
    have hzl : z < s.heap.objs.size := Heap.lt_size hz
    refine zs_next_item D hz hTI hTO h1 h2 p.isList p2.isList (x := u) (y := u2) (by simpa using hu) (by simpa using hu2) fun h' z' TO' h1' h2' hT hsz hk => ?_
    refine ⟨_, rfl, zs_go (s := { s with heap := h' }) z' fun h'' z'' sb => ?_⟩
    have hT2 : h''.get? s.heap.objs.size = some { cls := .type "tuple", data := .seq #[u, u2] } := (sb.2 _ (Nat.ne_of_gt hzl)).trans hT
    have new : ObjOk X.prog X.w (upd H s.heap.objs.size (.tup [x, y])) h'' s.heap.objs.size (.tup [x, y]) :=
      ⟨by show 2 ≤ sizeLine; decide, [u, u2], .cons ru (.cons ru2 .nil), ⟨_, hT2, rfl, _, rfl⟩⟩
    have I1 : Inv X pins σ (upd H s.heap.objs.size (.tup [x, y])) { s with heap := h'' } :=
      I.turnedNew (t' := s.toks) (ch := [z, TI, TO, i1, i2]) (fun c o hb q => (sb.2 c (fun q' => hb (by simp [q']))).trans (hk c o (fun q' => hb (by simp [q'])) (fun q' => hb (by simp [q'])) (fun q' => hb (by simp [q'])) (fun q' => hb (by simp [q'])) q)) hf (Nat.le_refl _) new
    refine ⟨.ref s.heap.objs.size, _, I1, rfl, ⟨_, x, y, rfl, I.hok.fresh (Nat.le_refl _), rfl, fun l hl => by rw [I.list_inj hl hqx]; exact hx, fun l hl => by rw [I.list_inj hl hqy]; exact hy⟩, ⟨z'', ?_, ⟨u, u2, ?_⟩, ?_, ?_⟩, fun c hcm => ?_⟩
    · exact (sb.2 _ D.TIz).trans (hk _ _ D.TIz D.TITO D.TIi1 D.TIi2 hTI)
    · exact (sb.2 _ D.TOz).trans TO'
    · exact h1'.at fun o q => (sb.2 _ D.i1z).trans q
    · exact h2'.at fun o q => (sb.2 _ D.i2z).trans q
    · have hlt : c < s.heap.objs.size := by
        simp only [List.mem_cons, List.not_mem_nil, or_false] at hcm
        rcases hcm with q | q | q | q | q <;> rw [q]
        · exact hzl
        · exact Heap.lt_size hTI
        · exact Heap.lt_size hTO
        · obtain ⟨_, e1, _⟩ := h1; exact Heap.lt_size e1
        · obtain ⟨_, e2, _⟩ := h2; exact Heap.lt_size e2
      rw [upd_ne (Nat.ne_of_lt hlt)]
      exact (hf c hcm).1
  done := by
    intro X hP hw hK hc i pins s σ H E I hf st hg
    subst hP hw hK
    obtain ⟨hz, hTI, ⟨x0, y0, hTO⟩, h1, h2⟩ := st
    obtain ⟨xs, ys, hqx, hqy, l1, l2⟩ := hg
    obtain ⟨its, rv, p, _⟩ := I.list hqx
    obtain ⟨its2, rv2, p2, _⟩ := I.list hqy
    have m1 := rv.length
    have m2 := rv2.length
    exact zs_next_end (I.ok.hd hc) D hz hTI hTO h1 h2 p.isList p2.isList (by simp; omega) (by simp; omega) fun h' hk => ⟨rfl, I.turnedL (t' := s.toks) (ch := [z, TI, TO, i1, i2]) (fun c o hb q =>
      hk c o (fun q' => hb (by simp [q'])) (fun q' => hb (by simp [q'])) (fun q' => hb (by simp [q'])) (fun q' => hb (by simp [q'])) q) hf⟩
  self := fun A i s Q E st h => zs_iter st.1 h
def iZipS (K : PySem.W.Frag) (ta : TA) : TI := fun σ H R => ta σ H fun vs H1 => ∃ a b xs ys, vs = [.ref a, .ref b] ∧ SqL K H1 a xs ∧ SqL K H1 b ys ∧ R (ItzS K a b) H1
theorem pi_zipS {X : Cx} {e e2 : Expr} {ta : TA} {p pos tpos cp kp : Pos} {elts : List Expr} {kk j : Nat} (hg : Gl X "zip") (hm : X.mg "zip" = none) (ha : PA X [e, e2] ta)
    (he : backTo pos (starEach [e, e2] X.env) = (false, eval e X.env) :: backTo pos (starEach [e2] X.env) := by rfl) (hpl : (backTo pos (starEach [e, e2] X.env)).any (·.1) = false := by rfl) :
    PI X (.Tuple elts kk tpos) (.Call (.Name "zip" p) [e, e2] [⟨some "strict", .Constant (.bool true) j cp, kp⟩] pos) (iZipS X.K ta) := by
  refine ⟨fun pins s σ H R I h => ?_⟩
  refine wpAny_Call_Name_kw (ld_blt I hg hm PyProof.Rows.boot_zip (callWith_tk hpl rfl ?_))
  rw [he]
  refine evalArgs_kwB rfl ?_
  rw [← he]
  refine thn (ha.run pos pins s σ H _ I h) fun us s1 ⟨vs, H1, I1, r1, q1⟩ => ?_
  refine kws_cons (Constant_bool (kws_nil ?_))
  obtain ⟨a, b, xs, ys, ex, hqx, hqy, q⟩ := q1
  subst ex
  cases r1 with
  | cons r rr =>
    cases rr with
    | cons r' rr =>
      cases rr
      cases r
      cases r'
      obtain ⟨its, rv, p1, _⟩ := I1.list hqx
      obtain ⟨its2, rv2, p2, _⟩ := I1.list hqy
      have la : a < s1.heap.objs.size := p1.lt
      have lb : b < s1.heap.objs.size := p2.lt
      refine call_zipS p1.isList p2.isList fun h' hz hTI hTO h1 h2 hk => zs_iter hz ?_
      have I2 : Inv X pins σ H1 { s1 with heap := h' } := I1.kept (t' := s1.toks) hk
      refine ⟨s1.heap.objs.size + 4, [s1.heap.objs.size + 4, s1.heap.objs.size + 2, s1.heap.objs.size + 3, s1.heap.objs.size, s1.heap.objs.size + 1], _, _, H1, rfl, I2, turn_zipS (PySem.W.ktu_apart s1.heap.objs.size a b la lb), ⟨hz, hTI, ⟨_, _, hTO⟩, h1, h2⟩, fun c hcm => ?_, q⟩
      have hle : s1.heap.objs.size ≤ c := by
        simp only [List.mem_cons, List.not_mem_nil, or_false] at hcm
        rcases hcm with z | z | z | z | z <;> rw [z] <;> omega
      exact I1.fpOk hle (I1.hok.fresh hle)
section
variable {X : Cx} {F : Fr} {s : S} {a b : Expr} {p pos tpos cp kp : Pos} {elts : List Expr} {kk j : Nat} {Θ : Nat → (Nat → E → Prop) → S → Prop}
/-- two whole frozen lists of one length, in pairs -/
def itZ (ds es : List D) : Nat → E → Prop := fun i e => ∃ d d2, ds[i]? = some d ∧ es[i]? = some d2 ∧ e = .d (.nd .tup [d, d2])
theorem ji_zipS (g : GlB X "zip") (h : JE X F a s fun e1 s1 => JE X F b s1 fun e2 s2 => ∃ ds es, e1 = .d (.nd .lst ds) ∧ e2 = .d (.nd .lst es) ∧ ds.length = es.length ∧ Θ ds.length (itZ ds es) s2)
    (ns : NoStar a := by intro _ _; rfl) (ns2 : NoStar b := by intro _ _; rfl) : JI X F (.Tuple elts kk tpos) (.Call (.Name "zip" p) [a, b] [⟨some "strict", .Constant (.bool true) j cp, kp⟩] pos) s Θ := fun as G H σ R c k => by
  refine PI.sem (pi_zipS g.gl g.mg (pa_cons (pe_sem X a) (pa_cons (pe_sem X b) pa_nil (ns2 _ _)) (ns _ _)) (by rw [ns, ns2]; rfl) (by rw [ns, ns2]; rfl)) ?_
  refine h as G H σ _ c fun v1 as1 G1 H1 e1 s1 c1 x1 ve1 h1 => h1 as1 G1 H1 σ _ c1 fun v2 as2 G2 H2 e2 s2 c2 x2 ve2 ⟨ds, es, q1, q2, hl, q⟩ => ?_
  subst q1 q2
  cases ve1 with
  | @nd l1 vs _ _ n r =>
    cases ve2 with
    | @nd l2 ws _ _ n2 r2 =>
      have n : SqL X.K G1 l1 vs := n
      have n2 : SqL X.K G2 l2 ws := n2
      have n3 : SqL X.K G2 l1 vs := (show NodeAt X.K G1 l1 vs .lst from n).mono x2.sub
      have r3 : Reps X.K G2 vs ds := r.mono x2.sub
      have at1 : ∀ {as' : List Addr} {G' H' : Hp} {σ' : L2.St} {s' : S}, Cz X F as' G' H' σ' s' → Same G2 G' → SqL X.K H' l1 vs := fun c' x => ((show NodeAt X.K G2 l1 vs .lst from n3).mono x).mono c'.sub
      have at2 : ∀ {as' : List Addr} {G' H' : Hp} {σ' : L2.St} {s' : S}, Cz X F as' G' H' σ' s' → Same G2 G' → SqL X.K H' l2 ws := fun c' x => ((show NodeAt X.K G2 l2 ws .lst from n2).mono x).mono c'.sub
      have el1 : vs.length = ds.length := r3.length
      have el2 : ws.length = es.length := r2.length
      refine ⟨l1, l2, vs, ws, rfl, (show NodeAt X.K G2 l1 vs .lst from n3).mono c2.sub, (show NodeAt X.K G2 l2 ws .lst from n2).mono c2.sub, k (ItzS X.K l1 l2) as2 G2 H2 s2 ds.length (itZ ds es) c2 (x1.trans x2) ?_ q⟩
      refine ⟨fun as' G' H' σ' s' c' x => ⟨vs, ws, at1 c' x, at2 c' x, by omega, by omega⟩, fun i as' G' H' σ' s' hi c' x => ⟨vs, ws, vs[i]'(by omega), ws[i]'(by omega), at1 c' x, at2 c' x, List.getElem?_eq_getElem _, List.getElem?_eq_getElem _⟩,
        fun i as' G' H' σ' s' y H3 hi c' x q => ?_, fun i as' G' H' σ' s' y H3 hi c' x q => ?_⟩
      · obtain ⟨T, u, u2, rfl, hT, rfl, g1, g2⟩ := q
        obtain ⟨d, e1, e2⟩ := r3.get' (g1 vs (at1 c' x))
        obtain ⟨d2, e3, e4⟩ := r2.get' (g2 ws (at2 c' x))
        have sg : Same G' (upd G' T (.tup [u, u2])) := same_new (c'.gnone hT)
        refine ⟨upd G' T (.tup [u, u2]), .d (.nd .tup [d, d2]), c'.addG hT, ⟨sg, fun b0 hb hg => ?_⟩, ?_, d, d2, e1, e3, rfl⟩
        · rw [upd_ne (fun z => hb (by rw [z]; exact hT))]; exact hg
        · exact .nd (k := .tup) (SqT.of upd_same) (.cons ((e2.mono x).mono sg) (.cons ((e4.mono x).mono sg) .nil))
      · obtain ⟨T, u, u2, rfl, hT, rfl, g1, g2⟩ := q
        exact same_new hT
end
end DL
namespace DL
open PySem PySem.Spec PyProof.Rows L2
/-! ### [elt for a, b in zip(x, y, strict=True)], pure -/
def gP2 (K : PySem.W.Frag) (j1 j2 : Nat) : TG := gTup K 2 (gCons (gName j1) (gCons (gName j2) gNil))
/-- the state in the block -/
def S.blk2 (s : S) (vs : List Nat) (acc : List E) (j1 : Nat) (v1 : E) (j2 : Nat) (v2 : E) : S := (((s.wipe vs).push .lst acc).set j1 v1).set j2 v2
section
variable {X : Cx} {F : Fr} {s : S} {elt iter : Expr} {scope : Scope} {own : List (Str × Nat)} {pos p1 p2 tp : Pos} {x1 x2 : Str} {j1 j2 kk B : Nat}
theorem pg_B2 (bx : Bx X B) (hn1 : ∀ Y, IsBlk X scope Y → NmW Y j1 x1) (hn2 : ∀ Y, IsBlk X scope Y → NmW Y j2 x2) (st : Shared) (H : Hp) (C : Addr) (cl : List (Str × Addr)) (fp : List Addr) :
    PG (X.blk st H scope (compEnvC scope cl C X.env) fp) (.Tuple [.Name x1 p1, .Name x2 p2] kk tp) (gP2 X.K j1 j2) := by
  have m1 := hn1 _ ⟨st, H, C, cl, fp, rfl⟩
  have m2 := hn2 _ ⟨st, H, C, cl, fp, rfl⟩
  exact pg_tup (n := 2) bx.calm (pgs_cons (pg_name m1.nd m1.nm m1.loc m1.hf) (pgs_cons (pg_name m2.nd m2.nm m2.loc m2.hf) pgs_nil))
/-- pairs of two lists, the element pure -/
def LcZ (X : Cx) (F : Fr) (tg iter elt : Expr) (scope : Scope) (vs : List Nat) (j1 j2 : Nat) (s : S) (Θ : List D → Prop) : Prop :=
  JI X F tg iter s fun n it s1 => s1 = s ∧ n ≤ 16000000 ∧ ∃ (ds es : List D) (f : Nat → D), it = itZ ds es ∧
    (∀ i d1 d2 acc, i < n → ds[i]? = some d1 → es[i]? = some d2 → ∀ Y, IsBlk X scope Y → JE Y F elt (s.blk2 vs acc j1 (.d d1) j2 (.d d2)) fun y s3 => y = .d (f i) ∧ s3 = s.blk2 vs acc j1 (.d d1) j2 (.d d2)) ∧ Θ ((List.range n).map f)
theorem push_wipe {vs : List Nat} {acc : List E} : ((s.wipe vs).push .lst acc).wipe vs = (s.wipe vs).push .lst acc := by
  have h := congrArg S.sl (wipe_wipe (s := s) (vs := vs))
  have h : wipeN (wipeN s.sl vs) vs = wipeN s.sl vs := h
  show (⟨wipeN (wipeN s.sl vs) vs, _, _⟩ : S) = ⟨wipeN s.sl vs, _, _⟩
  rw [h]
  rfl
theorem push_put {vs : List Nat} {acc acc' : List E} : ((s.wipe vs).push .lst acc).put s.ce.length .lst acc' = (s.wipe vs).push .lst acc' := by
  show (⟨_, setN (s.ce ++ [Cell.nd .lst _]) s.ce.length _, _⟩ : S) = ⟨_, s.ce ++ [_], _⟩
  rw [setN_eq, List.set_append_right _ _ (Nat.le_refl _)]
  simp
  exact ⟨rfl, rfl⟩
theorem lcZ_read {Θ : List D → Prop} (hj1 : j1 ∈ own.map (·.2)) (hj2 : j2 ∈ own.map (·.2)) {tg : Expr} (h : LcZ X F tg iter elt scope (own.map (·.2)) j1 j2 s Θ) :
    ∀ as G H σ (Q : VK), Cz X F as G H σ s → (∀ v as' G' H' ds, Cz X F as' G' H' σ (s.push .lst (ds.map .d)) → Ext as as' G G' → VE X.K G' as' v (.r s.ce.length) → Θ ds → Q v H') → tLc (semI X tg iter) (gP2 X.K j1 j2) (ttB X scope []) (teB X scope elt) (own.map (·.2)) σ H Q := by
  refine fun as G H σ Q c k => h as G H σ _ c fun J as1 G1 H1 s1 n it c1 x1 okJ ⟨q1, q2, ds, es, f, q3, q4, q5⟩ => ?_
  subst q1 q3
  intro D hD
  have c1' := (c1.wipe (own.map (·.2))).addO (kd := .lst) (o := .lst []) (vs := []) (es := []) hD upd_same .nil
  have hk : s1.ce.length = as1.length := c1.len.symm
  refine ⟨fun i m H' => m = n - i ∧ i ≤ n ∧ ∃ as' G', Cz X F as' G' H' (wipe σ (own.map (·.2))) ((s1.wipe (own.map (·.2))).push .lst (((List.range i).map f).map .d)) ∧ as1 ++ [D] <+: as' ∧ Same G1 G', ⟨n, by simp, Nat.zero_le _, _, _, c1', List.prefix_refl _, Same.refl _⟩, ?_⟩
  rintro i m H' ⟨rfl, hi, as', G', c', pr, sg⟩
  have prD : as'[s1.ce.length]? = some D := pre_get pr (by rw [hk, List.getElem?_append_right (Nat.le_refl _)]; simp)
  by_cases hlt : i < n
  · refine .inr ⟨okJ.go i as' G' H' _ _ hlt c' sg, fun H2 => ∃ as' G', Cz X F as' G' H2 (wipe σ (own.map (·.2))) ((s1.wipe (own.map (·.2))).push .lst (((List.range (i + 1)).map f).map .d)) ∧ as1 ++ [D] <+: as' ∧ Same G1 G', fun H2 ⟨as2, G2, c2, p2, g2⟩ => ⟨n - (i + 1), by omega, rfl, hlt, as2, G2, c2, p2, g2⟩, fun v H2 y => ?_⟩
    obtain ⟨G2, e, c2, ⟨x2, _⟩, ve, d1, d2, e1, e2, rfl⟩ := okJ.yld i as' G' H' _ _ v H2 hlt c' sg y
    cases ve with
    | @nd a us _ _ nn rr =>
      cases rr with
      | @cons v1 _ _ _ r1 rr =>
        cases rr with
        | @cons v2 _ _ _ r2 rr =>
          cases rr
          have c3 := (c2.set (i := j1) (e := .d d1) r1).set (i := j2) (e := .d d2) r2
          have ws : wipe (((wipe σ (own.map (·.2))).set j1 (some v1)).set j2 (some v2)) (own.map (·.2)) = wipe σ (own.map (·.2)) := wipe_same (by rw [List.length_set, List.length_set, wipe_length]) fun l hl => by
            rw [List.getElem?_set_ne (fun z => hl (by rw [← z]; exact hj2)), List.getElem?_set_ne (fun z => hl (by rw [← z]; exact hj1)), wipe_out' hl]
          refine ⟨a, [v1, v2], rfl, (show NodeAt X.K G2 a [v1, v2] .tup from nn).mono c2.sub, rfl, v1, [v2], rfl, v2, [], rfl, rfl, ws, ?_⟩
          refine fun Y hY pins st I => jts_run (F := F) (ifs := []) (Ψ := fun b s2 => b = true ∧ s2 = s1.blk2 (own.map (·.2)) (((List.range i).map f).map .d) j1 (.d d1) j2 (.d d2)) ⟨rfl, rfl⟩ (cz_blk hY c3) (fun b as4 G4 H4 s4 c4 x4 ⟨qb, qs⟩ => ?_) pins st I
          subst qb qs
          simp only [if_true]
          refine fun Y2 hY2 => q4 i d1 d2 _ hlt e1 e2 Y2 hY2 as4 G4 H4 _ _ (cz_blk hY2 (cz_ublk hY c4)) fun y as5 G5 H5 y' s5 c5 x5 ve5 ⟨w1, w2⟩ => ?_
          subst w1 w2
          have c5 := cz_ublk hY2 c5
          rw [hY2.K] at ve5
          have p5 : as1 ++ [D] <+: as5 := (pr.trans x4.pre).trans x5.pre
          have prD5 : as5[s1.ce.length]? = some D := pre_get p5 (by rw [hk, List.getElem?_append_right (Nat.le_refl _)]; simp)
          have hce : (s1.blk2 (own.map (·.2)) (((List.range i).map f).map .d) j1 (.d d1) j2 (.d d2)).ce[s1.ce.length]? = some (.nd .lst (((List.range i).map f).map .d)) := by
            show (s1.ce ++ [Cell.nd .lst _])[s1.ce.length]? = _
            rw [List.getElem?_append_right (Nat.le_refl _)]; simp
          obtain ⟨b, ws5, y1, y2, y3⟩ := c5.cells _ _ _ hce
          rw [prD5] at y1
          cases y1
          have y2' : H5 D = some (.lst ws5) := y2
          have hl := Paired.length y3
          refine ⟨ws5, y2', by rw [hl, List.length_map, List.length_map, List.length_range, sizeLine_eq]; omega, ?_⟩
          have c6 := (c5.put (kd := .lst) (es := ((List.range i).map f).map .d ++ [.d (f i)]) (o := .lst (ws5 ++ [y])) hce prD5 upd_same (y3.snoc ve5)).wipe (own.map (·.2))
          rw [ws] at c6
          have eS : ((s1.blk2 (own.map (·.2)) (((List.range i).map f).map .d) j1 (.d d1) j2 (.d d2)).put s1.ce.length .lst (((List.range i).map f).map .d ++ [.d (f i)])).wipe (own.map (·.2)) = (s1.wipe (own.map (·.2))).push .lst (((List.range (i + 1)).map f).map .d) := by
            show (((((s1.wipe (own.map (·.2))).push .lst (((List.range i).map f).map .d)).put s1.ce.length .lst (((List.range i).map f).map .d ++ [.d (f i)])).set j1 (.d d1)).set j2 (.d d2)).wipe (own.map (·.2)) = _
            rw [set_wipe hj2, set_wipe hj1, push_put, push_wipe, List.range_succ]
            simp
          rw [eS] at c6
          exact ⟨as5, G5, c6, p5, ((sg.trans x2).trans x4.sub).trans x5.sub⟩
  · have e : i = n := by omega
    subst e
    refine .inl ⟨okJ.stop as' G' H' _ _ c' sg, ?_⟩
    have x : Ext as1 as' G1 G' := ⟨pre_snoc.trans pr, sg⟩
    exact k _ as' G' H' _ (c1.back c' x) (x1.trans x) ⟨D, prD, rfl⟩ q5
/-- .. frozen -/
theorem je_lcZ {Φ : E → S → Prop} (bx : Bx X B) (ok : BlkOk X.N X.env.scope scope own) (hj1 : j1 ∈ own.map (·.2)) (hj2 : j2 ∈ own.map (·.2)) (hn1 : ∀ Y, IsBlk X scope Y → NmW Y j1 x1) (hn2 : ∀ Y, IsBlk X scope Y → NmW Y j2 x2)
    (h : LcZ X F (.Tuple [.Name x1 p1, .Name x2 p2] kk tp) iter elt scope (own.map (·.2)) j1 j2 s fun ds => Φ (.d (.nd .lst ds)) s)
    (hs : ∀ x, foldedSetIterable iter X.env x = pure x := by intro _; rfl) : JE X F (.ListComp elt [⟨.Tuple [.Name x1 p1, .Name x2 p2] kk tp, iter, [], 0⟩] scope pos) s Φ :=
  je_pop (kd := .lst) (je_of (pe_lc bx.calm bx.nd (pi_sem X _ iter) ok (pg_B2 bx hn1 hn2) pts_B pe_B hs) fun as G H σ Q c k => lcZ_read hj1 hj2 h as G H σ Q c fun v as' G' H' ds c' x' ve q => k v as' G' H' _ _ c' x' ve ⟨ds, rfl, rfl, q⟩)
/-- name = .. on one line -/
theorem js_setLcZ {i : Nat} {y : Str} {py spos : Pos} {P : Po} (bx : Bx X B) (ny : NmW X i y) (ly : X.env.scope.names.lookup y = some .local) (hsw : swapsWith (.ListComp elt [⟨.Tuple [.Name x1 p1, .Name x2 p2] kk tp, iter, [], 0⟩] scope pos) (some (.Name y py)) spos.line X.env = pure true)
    (ok : BlkOk X.N X.env.scope scope own) (hj1 : j1 ∈ own.map (·.2)) (hj2 : j2 ∈ own.map (·.2)) (hn1 : ∀ Y, IsBlk X scope Y → NmW Y j1 x1) (hn2 : ∀ Y, IsBlk X scope Y → NmW Y j2 x2)
    (h : LcZ X F (.Tuple [.Name x1 p1, .Name x2 p2] kk tp) iter elt scope (own.map (·.2)) j1 j2 s fun ds => P.nx (s.set i (.d (.nd .lst ds))))
    (hs : ∀ x, foldedSetIterable iter X.env x = pure x := by intro _; rfl) : JS X F (.Assign [.Name y py] (.ListComp elt [⟨.Tuple [.Name x1 p1, .Name x2 p2] kk tp, iter, [], 0⟩] scope pos) spos) s P := fun as G H σ D c k =>
  PS.sem (ps_setLc bx.calm bx.nd ny.nm ly hsw (pi_sem X _ iter) ok (pg_B2 bx hn1 hn2) pts_B pe_B hs) (lcZ_read hj1 hj2 h as G H σ _ c fun v as1 G1 H1 ds c1 x1 ve q => by
    obtain ⟨G2, c2, sg, rep⟩ := c.popFrz c1 x1
    obtain ⟨b, hb, rfl⟩ := ve
    exact k.nx as G2 H1 _ _ (c2.set (i := i) (e := .d (.nd .lst ds)) (rep b hb)) (x1.sub.trans sg) q)
end
end DL
namespace DL
open PySem PySem.Spec PyProof.Rows L2
section
variable {X : Cx} {F : Fr} {s : S} {Φ : E → S → Prop}
theorem VEs_app {K : PySem.W.Frag} {G : Hp} {as : List Addr} {vs ws : List V} {es fs : List E} (h : VEs K G as vs es) (h2 : VEs K G as ws fs) : VEs K G as (vs ++ ws) (es ++ fs) := by
  induction h with
  | nil => exact h2
  | cons a t ih => exact .cons a ih
/-- xs + ys, lists: a new one, owned -/
theorem jr_catO {e1 e2 : E} {ds1 ds2 : List D} (h1 : s.node e1 = some (.lst, ds1.map .d)) (h2 : s.node e2 = some (.lst, ds2.map .d)) (hl : ds1.length + ds2.length ≤ sizeLine) (q : Φ (.r s.ce.length) (s.push .lst ((ds1 ++ ds2).map .d))) : JR X F (binaryOp .Add) e1 e2 s Φ :=
  jr_of op_catS fun as G H σ x y Q c v1 v2 k => by
    obtain ⟨a, vs, rfl, n1, w1⟩ := c.node v1 h1
    obtain ⟨b, ws, rfl, n2, w2⟩ := c.node v2 h2
    refine ⟨a, b, vs, ws, rfl, rfl, n1, n2, by rw [w1.reps.length, w2.reps.length]; exact hl, fun p hp => ?_⟩
    have w : VEs X.K G as (vs ++ ws) ((ds1 ++ ds2).map .d) := by rw [List.map_append]; exact VEs_app w1 w2
    exact k _ _ G _ (.r s.ce.length) _ (c.addO (kd := .lst) hp upd_same w) ⟨pre_snoc, Same.refl _⟩ ⟨p, by rw [← c.len, List.getElem?_append_right (Nat.le_refl _)]; simp, rfl⟩ q
end
end DL
namespace DL
open PySem PySem.Spec PyProof.Rows L2
/-! ### zip(a, b, c, strict=True) over three lists of one length -/
theorem F_tcz3 (a b c : Value) : checkTypeCall "zip" ⟨[a, b, c], [(Str.ofString "strict", .bool true)]⟩ = pure () := by kernel_rfl
theorem F_ncz3 (a b c : Value) : checkBuiltinCall "zip.__new__" ⟨[.type "zip", a, b, c], [(Str.ofString "strict", .bool true)]⟩ = pure () := by kernel_rfl
theorem F_aoz3 (obj a b c : Value) : argsOk "object.__init__" ⟨[obj, a, b, c], [(Str.ofString "strict", .bool true)]⟩ := by unfold argsOk; kernel_rfl
abbrev IsTrip (h : Heap) (T : Nat) (a b c : Value) : Prop := h.get? T = some { cls := .type "tuple", data := .seq #[a, b, c] }
section
variable {prog : Program} {w : World} {A : Around} {E : Value → Shared → Prop} {s : Shared}
theorem wpAny_updateSeq_trip {T : Nat} {a b c x : Value} {k : Nat} {Q : Unit → Shared → Prop} (hT : IsTrip s.heap T a b c)
    (h : ∀ h', h'.get? T = some { cls := .type "tuple", data := .seq ((#[a, b, c] : Array Value).setIfInBounds k x) } → Heap.SameBut T s.heap h' → Q () { s with heap := h' }) :
    wpAny (model prog w) A (updateSeq T (·.setIfInBounds k x)) Q E s := by
  refine wpAny_updateSeq hT rfl (h _ ?_ (Heap.SameBut.update ..))
  rw [Heap.get?_update_self _ hT rfl]
  simp [Obj.mapSeq]
theorem z3_item {I l1 l2 l3 k : Nat} {xs ys zs : Array Value} {x y u a b c : Value} {Q : Value → Shared → Prop} (D : l1 < I ∧ l2 < I ∧ l3 < I)
    (hz : ZipS s.heap (I + 5) (I + 3) (I + 4) .none) (hTI : IsTrip s.heap (I + 3) (.ref I) (.ref (I + 1)) (.ref (I + 2))) (hTO : IsTrip s.heap (I + 4) a b c)
    (h1 : s.heap.IsListIter I l1 k) (h2 : s.heap.IsListIter (I + 1) l2 k) (h3 : s.heap.IsListIter (I + 2) l3 k) (hl1 : s.heap.IsList l1 xs) (hl2 : s.heap.IsList l2 ys) (hl3 : s.heap.IsList l3 zs) (hx : xs[k]? = some x) (hy : ys[k]? = some y) (hu : zs[k]? = some u)
    (hQ : ∀ h', ZipS h' (I + 5) (I + 3) (I + 4) (rawInt s.heap.objs.size) → IsTrip h' (I + 4) x y u → h'.IsListIter I l1 (k + 1) → h'.IsListIter (I + 1) l2 (k + 1) → h'.IsListIter (I + 2) l3 (k + 1) → IsTrip h' s.heap.objs.size x y u → h'.objs.size = s.heap.objs.size + 1 →
      (∀ (e : Nat) o, e ≠ I + 5 → e ≠ I + 4 → e ≠ I → e ≠ I + 1 → e ≠ I + 2 → s.heap.get? e = some o → h'.get? e = some o) → Q (.ref s.heap.objs.size) { s with heap := h' }) :
    wpAny (model prog w) A (Builtin.«zip.__next__» ⟨[.ref (I + 5)], []⟩) (fun fin s' => ∃ v, fin = .done (.ret v) ∧ Q v s') E s := by
  obtain ⟨D1, D2, D3⟩ := D
  show wpAny _ _ (field (.ref (I + 5)) 2 >>= _) _ _ _
  refine wpAny_bind (wpAny_field hz rfl (x := .bool true) rfl ?_)
  show wpAny _ _ (field (.ref (I + 5)) 3 >>= _) _ _ _
  refine wpAny_bind (wpAny_field hz rfl (x := .ref (I + 3)) rfl (wpAny_bind (wpAny_seqItems hTI rfl ?_)))
  show wpAny _ _ (Builtin.SmallTypes.ownedTupleIsFree (.ref (I + 5)) >>= _) _ _ _
  refine wpAny_bind ?_
  unfold Builtin.SmallTypes.ownedTupleIsFree
  refine wpAny_bind (wpAny_field hz rfl (x := .none) rfl (wpAny_pure ?_))
  simp only [if_true]
  refine wpAny_bind (wpAny_rule (wpAny_bind (wpAny_field hz rfl (x := .ref (I + 4)) rfl (wpAny_bind (wpAny_setField_rec hz (by simp) fun g1 z1 s1 => wpAny_bind ?_)))))
  replace z1 : ZipS g1 (I + 5) (I + 3) (I + 4) .ellipsis := z1
  simp only [List.zipIdx_cons, List.zipIdx_nil, List.forIn_cons, List.forIn_nil]
  refine wpAny_bind (wpAny_bind (wpAny_onRaise ?_))
  show wpAny _ _ (Builtin.SmallTypes.nextOrEnd (.ref I)) _ _ _
  refine nOE_item (h1.extBut s1.extBut (by show @Ne Nat _ _; omega)) (hl1.extBut s1.extBut (by show @Ne Nat _ _; omega)) hx fun g2 a2 s2 => ?_
  have t2 : IsTrip g2 (I + 4) a b c := s2.extBut _ _ (by show @Ne Nat _ _; omega) (s1.extBut _ _ (by show @Ne Nat _ _; omega) hTO)
  refine wpAny_bind (wpAny_seqItems t2 rfl (wpAny_bind (wpAny_updateSeq_trip t2 fun g3 t3 s3 => wpAny_bind (wpAny_letGo (wpAny_pure ?_)))))
  replace t3 : IsTrip g3 (I + 4) x b c := t3
  refine wpAny_bind (wpAny_bind (wpAny_onRaise ?_))
  show wpAny _ _ (Builtin.SmallTypes.nextOrEnd (.ref (I + 1))) _ _ _
  refine nOE_item (((h2.extBut s1.extBut (by show @Ne Nat _ _; omega)).extBut s2.extBut (by show @Ne Nat _ _; omega)).extBut s3.extBut (by show @Ne Nat _ _; omega)) (((hl2.extBut s1.extBut (by show @Ne Nat _ _; omega)).extBut s2.extBut (by show @Ne Nat _ _; omega)).extBut s3.extBut (by show @Ne Nat _ _; omega)) hy fun g4 a4 s4 => ?_
  have t4 : IsTrip g4 (I + 4) x b c := s4.extBut _ _ (by show @Ne Nat _ _; omega) t3
  refine wpAny_bind (wpAny_seqItems t4 rfl (wpAny_bind (wpAny_updateSeq_trip t4 fun g5 t5 s5 => wpAny_bind (wpAny_letGo (wpAny_pure ?_)))))
  replace t5 : IsTrip g5 (I + 4) x y c := t5
  refine wpAny_bind (wpAny_bind (wpAny_onRaise ?_))
  show wpAny _ _ (Builtin.SmallTypes.nextOrEnd (.ref (I + 2))) _ _ _
  refine nOE_item (((((h3.extBut s1.extBut (by show @Ne Nat _ _; omega)).extBut s2.extBut (by show @Ne Nat _ _; omega)).extBut s3.extBut (by show @Ne Nat _ _; omega)).extBut s4.extBut (by show @Ne Nat _ _; omega)).extBut s5.extBut (by show @Ne Nat _ _; omega)) (((((hl3.extBut s1.extBut (by show @Ne Nat _ _; omega)).extBut s2.extBut (by show @Ne Nat _ _; omega)).extBut s3.extBut (by show @Ne Nat _ _; omega)).extBut s4.extBut (by show @Ne Nat _ _; omega)).extBut s5.extBut (by show @Ne Nat _ _; omega)) hu fun g6 a6 s6 => ?_
  have t6 : IsTrip g6 (I + 4) x y c := s6.extBut _ _ (by show @Ne Nat _ _; omega) t5
  refine wpAny_bind (wpAny_seqItems t6 rfl (wpAny_bind (wpAny_updateSeq_trip t6 fun g7 t7 s7 => wpAny_bind (wpAny_letGo (wpAny_pure (wpAny_pure ?_))))))
  replace t7 : IsTrip g7 (I + 4) x y u := t7
  have ext : ∀ (e : Nat) o, e ≠ I + 5 → e ≠ I + 4 → e ≠ I → e ≠ I + 1 → e ≠ I + 2 → s.heap.get? e = some o → g7.get? e = some o := fun e o n1 n2 n3 n4 n5 q =>
    s7.extBut _ _ n2 (s6.extBut _ _ n5 (s5.extBut _ _ n2 (s4.extBut _ _ n4 (s3.extBut _ _ n2 (s2.extBut _ _ n3 (s1.extBut _ _ n1 q))))))
  have zz : g7.objs.size = s.heap.objs.size := by rw [s7.1, s6.1, s5.1, s4.1, s3.1, s2.1, s1.1]
  have z5 : ZipS g7 (I + 5) (I + 3) (I + 4) .ellipsis := s7.extBut _ _ (by show @Ne Nat _ _; omega) (s6.extBut _ _ (by show @Ne Nat _ _; omega) (s5.extBut _ _ (by show @Ne Nat _ _; omega) (s4.extBut _ _ (by show @Ne Nat _ _; omega) (s3.extBut _ _ (by show @Ne Nat _ _; omega) (s2.extBut _ _ (by show @Ne Nat _ _; omega) z1)))))
  have b1 : g7.IsListIter I l1 (k + 1) := ((((a2.extBut s3.extBut (by show @Ne Nat _ _; omega)).extBut s4.extBut (by show @Ne Nat _ _; omega)).extBut s5.extBut (by show @Ne Nat _ _; omega)).extBut s6.extBut (by show @Ne Nat _ _; omega)).extBut s7.extBut (by show @Ne Nat _ _; omega)
  have b2 : g7.IsListIter (I + 1) l2 (k + 1) := ((a4.extBut s5.extBut (by show @Ne Nat _ _; omega)).extBut s6.extBut (by show @Ne Nat _ _; omega)).extBut s7.extBut (by show @Ne Nat _ _; omega)
  have b3 : g7.IsListIter (I + 2) l3 (k + 1) := a6.extBut s7.extBut (by show @Ne Nat _ _; omega)
  refine wpAny_bind (wpAny_seqItems t7 rfl (wpAny_bind (wpAny_newTuple ?_)))
  show wpAny _ _ (Builtin.SmallTypes.ownedTupleHandOut (.ref (I + 5)) (.ref g7.objs.size) >>= _) _ _ _
  refine wpAny_bind ?_
  unfold Builtin.SmallTypes.ownedTupleHandOut
  have z6 : ZipS (g7.push { cls := .type "tuple", data := .seq #[x, y, u] }) (I + 5) (I + 3) (I + 4) .ellipsis := Heap.get?_push_of_some _ z5
  refine wpAny_bind (wpAny_setField_rec z6 (by simp) fun g8 z7 s8 => ?_)
  replace z7 : ZipS g8 (I + 5) (I + 3) (I + 4) (rawInt g7.objs.size) := z7
  refine wpAny_setField_rec z7 (by simp) fun g9 z8 s9 => ?_
  replace z8 : ZipS g9 (I + 5) (I + 3) (I + 4) (rawInt g7.objs.size) := z8
  have up : ∀ (e : Nat) o, e ≠ I + 5 → g7.get? e = some o → g9.get? e = some o := fun e o n q => s9.extBut _ _ n (s8.extBut _ _ n (Heap.get?_push_of_some _ q))
  have zl : I + 5 < g7.objs.size := Heap.lt_size z5
  have t8 : IsTrip g9 g7.objs.size x y u := s9.extBut _ _ (Nat.ne_of_gt zl) (s8.extBut _ _ (Nat.ne_of_gt zl) (Heap.get?_push_size _ rfl))
  have w8 : g9.objs.size = g7.objs.size + 1 := by rw [s9.1, s8.1, Heap.size_push]
  refine wpAny_pure ⟨_, rfl, ?_⟩
  show Q (.ref g7.objs.size) _
  rw [zz] at z8 t8 w8 ⊢
  exact hQ g9 z8 (up _ _ (by show @Ne Nat _ _; omega) t7) (b1.at fun o q => up _ o (by show @Ne Nat _ _; omega) q) (b2.at fun o q => up _ o (by show @Ne Nat _ _; omega) q) (b3.at fun o q => up _ o (by show @Ne Nat _ _; omega) q) t8 w8 fun e o n1 n2 n3 n4 n5 q => up e o n1 (ext e o n1 n2 n3 n4 n5 q)
theorem z3_end {I l1 l2 l3 k : Nat} {xs ys zs : Array Value} {a b c : Value} {Q : Fin → Shared → Prop} (hh : A.handled = none) (D : l1 < I ∧ l2 < I ∧ l3 < I)
    (hz : ZipS s.heap (I + 5) (I + 3) (I + 4) .none) (hTI : IsTrip s.heap (I + 3) (.ref I) (.ref (I + 1)) (.ref (I + 2))) (hTO : IsTrip s.heap (I + 4) a b c)
    (h1 : s.heap.IsListIter I l1 k) (h2 : s.heap.IsListIter (I + 1) l2 k) (h3 : s.heap.IsListIter (I + 2) l3 k) (hl1 : s.heap.IsList l1 xs) (hl2 : s.heap.IsList l2 ys) (hl3 : s.heap.IsList l3 zs) (hx : xs[k]? = none) (hy : ys[k]? = none) (hu : zs[k]? = none)
    (hE : ∀ h' e, (∀ (c : Nat) o, c ≠ I + 5 → c ≠ I + 4 → c ≠ I → c ≠ I + 1 → c ≠ I + 2 → s.heap.get? c = some o → h'.get? c = some o) → (∃ o, h'.get? e = some o ∧ o.cls = .type "StopIteration") → E (.ref e) { s with heap := h' }) :
    wpAny (model prog w) A (Builtin.«zip.__next__» ⟨[.ref (I + 5)], []⟩) Q E s := by
  obtain ⟨D1, D2, D3⟩ := D
  show wpAny _ _ (field (.ref (I + 5)) 2 >>= _) _ _ _
  refine wpAny_bind (wpAny_field hz rfl (x := .bool true) rfl ?_)
  show wpAny _ _ (field (.ref (I + 5)) 3 >>= _) _ _ _
  refine wpAny_bind (wpAny_field hz rfl (x := .ref (I + 3)) rfl (wpAny_bind (wpAny_seqItems hTI rfl ?_)))
  show wpAny _ _ (Builtin.SmallTypes.ownedTupleIsFree (.ref (I + 5)) >>= _) _ _ _
  refine wpAny_bind ?_
  unfold Builtin.SmallTypes.ownedTupleIsFree
  refine wpAny_bind (wpAny_field hz rfl (x := .none) rfl (wpAny_pure ?_))
  simp only [if_true]
  refine wpAny_bind (wpAny_rule (wpAny_bind (wpAny_field hz rfl (x := .ref (I + 4)) rfl (wpAny_bind (wpAny_setField_rec hz (by simp) fun g1 z1 s1 => wpAny_bind ?_)))))
  replace z1 : ZipS g1 (I + 5) (I + 3) (I + 4) .ellipsis := z1
  simp only [List.zipIdx_cons, List.zipIdx_nil, List.forIn_cons, List.forIn_nil]
  refine wpAny_bind (wpAny_bind (wpAny_onRaise ?_))
  show wpAny _ _ (Builtin.SmallTypes.nextOrEnd (.ref I)) _ _ _
  refine nOE_end hh (h1.extBut s1.extBut (by show @Ne Nat _ _; omega)) (hl1.extBut s1.extBut (by show @Ne Nat _ _; omega)) hx fun g2 s2 => ?_
  have z2 : ZipS g2 (I + 5) (I + 3) (I + 4) .ellipsis := s2 _ _ (by show @Ne Nat _ _; omega) z1
  refine wpAny_bind (wpAny_setField_rec z2 (by simp) fun g3 z3 s3 => ?_)
  replace z3 : ZipS g3 (I + 5) (I + 3) (I + 4) .none := z3
  refine wpAny_bind ?_
  refine wpAny_bind ?_
  simp only [List.drop_succ_cons, List.drop_zero, List.zipIdx_cons, List.zipIdx_nil, List.forIn_cons, List.forIn_nil]
  refine wpAny_bind (wpAny_bind ?_)
  refine nOE_end hh (((h2.extBut s1.extBut (by show @Ne Nat _ _; omega)).extBut s2 (by show @Ne Nat _ _; omega)).extBut s3.extBut (by show @Ne Nat _ _; omega)) (((hl2.extBut s1.extBut (by show @Ne Nat _ _; omega)).extBut s2 (by show @Ne Nat _ _; omega)).extBut s3.extBut (by show @Ne Nat _ _; omega)) hy fun g4 s4 => ?_
  simp only [Option.isSome_none, Bool.false_eq_true, if_false]
  refine wpAny_pure ?_
  refine wpAny_bind (wpAny_bind ?_)
  refine nOE_end hh ((((h3.extBut s1.extBut (by show @Ne Nat _ _; omega)).extBut s2 (by show @Ne Nat _ _; omega)).extBut s3.extBut (by show @Ne Nat _ _; omega)).extBut s4 (by show @Ne Nat _ _; omega)) ((((hl3.extBut s1.extBut (by show @Ne Nat _ _; omega)).extBut s2 (by show @Ne Nat _ _; omega)).extBut s3.extBut (by show @Ne Nat _ _; omega)).extBut s4 (by show @Ne Nat _ _; omega)) hu fun g5 s5 => ?_
  simp only [Option.isSome_none, Bool.false_eq_true, if_false]
  refine wpAny_pure (wpAny_pure ?_)
  refine wpAny_bind (wpAny_rule ?_)
  unfold Builtin.SmallTypes.stopIteration
  show wpAny _ _ (newExc (.type "StopIteration") [] >>= _) _ _ _
  refine wpAny_bind ?_
  simp only [newExc, newTuple]
  refine wpAny_bind (wpAny_newObj_type ?_ (by size_fits))
  refine wpAny_bind (m := firstArgMember _ _) (wpAny_of_eq (a := Value.none) (by first | rfl | (simp only [firstArgMember]; rfl)) ?_)
  refine wpAny_newObj_type ?_ (by size_fits)
  simp only [raiseNew]
  refine wpAny_bind (wpAny_handled ?_)
  rw [hh]
  refine wpAny_throw ?_
  exact hE _ _ (fun c o n1 _ n3 n4 n5 q => Heap.get?_push_of_some _ (Heap.get?_push_of_some _ (s5 _ _ n5 (s4 _ _ n4 (s3.extBut _ _ n1 (s2 _ _ n3 (s1.extBut _ _ n1 q))))))) ⟨_, Heap.get?_push_size _ rfl, rfl⟩
theorem z3_next_item {I l1 l2 l3 k : Nat} {xs ys zs : Array Value} {x y u a b c : Value} {Q : Option Value → Shared → Prop} (D : l1 < I ∧ l2 < I ∧ l3 < I)
    (hz : ZipS s.heap (I + 5) (I + 3) (I + 4) .none) (hTI : IsTrip s.heap (I + 3) (.ref I) (.ref (I + 1)) (.ref (I + 2))) (hTO : IsTrip s.heap (I + 4) a b c)
    (h1 : s.heap.IsListIter I l1 k) (h2 : s.heap.IsListIter (I + 1) l2 k) (h3 : s.heap.IsListIter (I + 2) l3 k) (hl1 : s.heap.IsList l1 xs) (hl2 : s.heap.IsList l2 ys) (hl3 : s.heap.IsList l3 zs) (hx : xs[k]? = some x) (hy : ys[k]? = some y) (hu : zs[k]? = some u)
    (hQ : ∀ h', ZipS h' (I + 5) (I + 3) (I + 4) (rawInt s.heap.objs.size) → IsTrip h' (I + 4) x y u → h'.IsListIter I l1 (k + 1) → h'.IsListIter (I + 1) l2 (k + 1) → h'.IsListIter (I + 2) l3 (k + 1) → IsTrip h' s.heap.objs.size x y u → h'.objs.size = s.heap.objs.size + 1 →
      (∀ (e : Nat) o, e ≠ I + 5 → e ≠ I + 4 → e ≠ I → e ≠ I + 1 → e ≠ I + 2 → s.heap.get? e = some o → h'.get? e = some o) → Q (some (.ref s.heap.objs.size)) { s with heap := h' }) :
    wpAny (model prog w) A (pyNext (.ref (I + 5))) Q E s := by
  have hT : s.TypeIs (.ref (I + 5)) "zip" := ⟨_, hz, rfl⟩
  unfold pyNext
  exact wpAny_bind (wpAny_attempt (wpAny_callSpecial?_slot (name := Str.ofString "__next__") hT F.slot_zip_next
    (wpAny_call_entry F.slot_zip_next hT F.entry_zip_next (z3_item D hz hTI hTO h1 h2 h3 hl1 hl2 hl3 hx hy hu fun h' a1 a2 a3 a4 a5 a6 a7 a8 => wpAny_pure (hQ h' a1 a2 a3 a4 a5 a6 a7 a8)) (F.args_zip_next_1 _))))
theorem z3_next_end {I l1 l2 l3 k : Nat} {xs ys zs : Array Value} {a b c : Value} {Q : Option Value → Shared → Prop} (hh : A.handled = none) (D : l1 < I ∧ l2 < I ∧ l3 < I)
    (hz : ZipS s.heap (I + 5) (I + 3) (I + 4) .none) (hTI : IsTrip s.heap (I + 3) (.ref I) (.ref (I + 1)) (.ref (I + 2))) (hTO : IsTrip s.heap (I + 4) a b c)
    (h1 : s.heap.IsListIter I l1 k) (h2 : s.heap.IsListIter (I + 1) l2 k) (h3 : s.heap.IsListIter (I + 2) l3 k) (hl1 : s.heap.IsList l1 xs) (hl2 : s.heap.IsList l2 ys) (hl3 : s.heap.IsList l3 zs) (hx : xs[k]? = none) (hy : ys[k]? = none) (hu : zs[k]? = none)
    (hQ : ∀ h', (∀ (c : Nat) o, c ≠ I + 5 → c ≠ I + 4 → c ≠ I → c ≠ I + 1 → c ≠ I + 2 → s.heap.get? c = some o → h'.get? c = some o) → Q none { s with heap := h' }) : wpAny (model prog w) A (pyNext (.ref (I + 5))) Q E s := by
  have hT : s.TypeIs (.ref (I + 5)) "zip" := ⟨_, hz, rfl⟩
  unfold pyNext
  refine wpAny_bind (wpAny_attempt (wpAny_callSpecial?_slot (name := Str.ofString "__next__") hT F.slot_zip_next
    (wpAny_call_entry F.slot_zip_next hT F.entry_zip_next (z3_end hh D hz hTI hTO h1 h2 h3 hl1 hl2 hl3 hx hy hu fun h' e hk he => ?_) (F.args_zip_next_1 _))))
  obtain ⟨o, ho, hc⟩ := he
  exact wpAny_bind (wpAny_isInstance (T := "StopIteration") (b := true) ⟨o, ho, hc⟩ isSubtype_stop (wpAny_pure (hQ _ hk)))
end
abbrev z3H1 (h : Heap) (l1 : Addr) : Heap := h.push { cls := .type "list_iterator", data := .fields #[.ref l1, .int 0 0] }
abbrev z3H2 (h : Heap) (l1 l2 : Addr) : Heap := (z3H1 h l1).push { cls := .type "list_iterator", data := .fields #[.ref l2, .int 0 0] }
abbrev z3H3 (h : Heap) (l1 l2 l3 : Addr) : Heap := (z3H2 h l1 l2).push { cls := .type "list_iterator", data := .fields #[.ref l3, .int 0 0] }
abbrev z3H4 (h : Heap) (l1 l2 l3 : Addr) : Heap := (z3H3 h l1 l2 l3).push { cls := .type "tuple", data := .seq #[.ref h.objs.size, .ref (z3H1 h l1).objs.size, .ref (z3H2 h l1 l2).objs.size] }
abbrev z3H5 (h : Heap) (l1 l2 l3 : Addr) : Heap := (z3H4 h l1 l2 l3).push { cls := .type "tuple", data := .seq #[.none, .none, .none] }
abbrev z3H6 (h : Heap) (l1 l2 l3 : Addr) : Heap := (z3H5 h l1 l2 l3).push { cls := .type "zip", data := .fields #[.none, .bool false, .bool true, .ref (z3H3 h l1 l2 l3).objs.size, .ref (z3H4 h l1 l2 l3).objs.size] }
theorem meets_zip3 (l1 l2 l3 : Addr) (xs ys zs : Array Value) :
    Meets (Builtin.«zip.__new__» ⟨[.type "zip", .ref l1, .ref l2, .ref l3], [(Str.ofString "strict", .bool true)]⟩) (fun _ R s => s.heap.IsList l1 xs ∧ s.heap.IsList l2 ys ∧ s.heap.IsList l3 zs ∧
      R (.ok (.ret (.ref (z3H5 s.heap l1 l2 l3).objs.size))) { s with heap := z3H6 s.heap l1 l2 l3 }) :=
  .of_wp fun prog w A R s h => by
    obtain ⟨hp, g, d, tk, os⟩ := s; obtain ⟨hl1, hl2, hl3, h⟩ := h
    have hsub := sub_zip
    have e1 : (Str.ofString "strict" != ("strict" : Str)) = false := by decide +kernel
    have hL1 : Heap.IsList (Shared.heap ⟨hp, g, d, tk, os⟩) l1 xs := hl1
    have hL2 : Heap.IsList (Shared.heap ⟨hp.push { cls := .type "list_iterator", data := .fields #[.ref l1, .int 0 0] }, g, d, tk, os⟩) l2 ys := Heap.IsList.push hl2 _
    have hL3 : Heap.IsList (Shared.heap ⟨(hp.push { cls := .type "list_iterator", data := .fields #[.ref l1, .int 0 0] }).push { cls := .type "list_iterator", data := .fields #[.ref l2, .int 0 0] }, g, d, tk, os⟩) l3 zs := Heap.IsList.push (Heap.IsList.push hl3 _) _
    wp_walk using wpAny_pyIter_list hL1, wpAny_pyIter_list hL2, wpAny_pyIter_list hL3
    exact ⟨_, rfl, h⟩
section
variable {prog : Program} {w : World} {A : Around} {E : Value → Shared → Prop} {s : Shared}
/-- the call: three iterators, two tuples, the zip -/
theorem call_zip3 {l1 l2 l3 : Addr} {xs ys zs : Array Value} {Q : Value → Shared → Prop} (hl1 : s.heap.IsList l1 xs) (hl2 : s.heap.IsList l2 ys) (hl3 : s.heap.IsList l3 zs)
    (h : ∀ h', ZipS h' (s.heap.objs.size + 5) (s.heap.objs.size + 3) (s.heap.objs.size + 4) .none → IsTrip h' (s.heap.objs.size + 3) (.ref s.heap.objs.size) (.ref (s.heap.objs.size + 1)) (.ref (s.heap.objs.size + 2)) →
      IsTrip h' (s.heap.objs.size + 4) .none .none .none → h'.IsListIter s.heap.objs.size l1 0 → h'.IsListIter (s.heap.objs.size + 1) l2 0 → h'.IsListIter (s.heap.objs.size + 2) l3 0 → (∀ c o, s.heap.get? c = some o → h'.get? c = some o) → Q (.ref (s.heap.objs.size + 5)) { s with heap := h' }) :
    wpAny (model prog w) A (call (.type "zip") [.ref l1, .ref l2, .ref l3] [(Str.ofString "strict", .bool true)]) Q E s := by
  refine callType_newKw F.called_zip (by decide) (F_tcz3 _ _ _) (F_ncz3 _ _ _) (fun obj => F_aoz3 obj _ _ _) F.entry_zip_new (meets_zip3 l1 l2 l3 xs ys zs) ⟨hl1, hl2, hl3, ?_⟩
  have n1 : (z3H1 s.heap l1).objs.size = s.heap.objs.size + 1 := Heap.size_push ..
  have n2 : (z3H2 s.heap l1 l2).objs.size = s.heap.objs.size + 2 := by rw [Heap.size_push, n1]
  have n3 : (z3H3 s.heap l1 l2 l3).objs.size = s.heap.objs.size + 3 := by rw [Heap.size_push, n2]
  have n4 : (z3H4 s.heap l1 l2 l3).objs.size = s.heap.objs.size + 4 := by rw [Heap.size_push, n3]
  have n5 : (z3H5 s.heap l1 l2 l3).objs.size = s.heap.objs.size + 5 := by rw [Heap.size_push, n4]
  have g6 : (z3H6 s.heap l1 l2 l3).get? (z3H5 s.heap l1 l2 l3).objs.size = some _ := Heap.get?_push_size _ rfl
  have g5 : (z3H6 s.heap l1 l2 l3).get? (z3H4 s.heap l1 l2 l3).objs.size = some _ := Heap.get?_push_of_some _ (Heap.get?_push_size _ rfl)
  have g4 : (z3H6 s.heap l1 l2 l3).get? (z3H3 s.heap l1 l2 l3).objs.size = some _ := Heap.get?_push_of_some _ (Heap.get?_push_of_some _ (Heap.get?_push_size _ rfl))
  have g3 : (z3H6 s.heap l1 l2 l3).get? (z3H2 s.heap l1 l2).objs.size = some _ := Heap.get?_push_of_some _ (Heap.get?_push_of_some _ (Heap.get?_push_of_some _ (Heap.get?_push_size _ rfl)))
  have g2 : (z3H6 s.heap l1 l2 l3).get? (z3H1 s.heap l1).objs.size = some _ := Heap.get?_push_of_some _ (Heap.get?_push_of_some _ (Heap.get?_push_of_some _ (Heap.get?_push_of_some _ (Heap.get?_push_size _ rfl))))
  have g1 : (z3H6 s.heap l1 l2 l3).get? s.heap.objs.size = some _ := Heap.get?_push_of_some _ (Heap.get?_push_of_some _ (Heap.get?_push_of_some _ (Heap.get?_push_of_some _ (Heap.get?_push_of_some _ (Heap.get?_push_size _ rfl)))))
  have old : ∀ c o, s.heap.get? c = some o → (z3H6 s.heap l1 l2 l3).get? c = some o := fun c o q => Heap.get?_push_of_some _ (Heap.get?_push_of_some _ (Heap.get?_push_of_some _ (Heap.get?_push_of_some _ (Heap.get?_push_of_some _ (Heap.get?_push_of_some _ q)))))
  show _ ∧ _
  rw [n3, n4, n5] at g6
  rw [n1, n2, n3] at g4
  rw [n4] at g5
  rw [n2] at g3
  rw [n1] at g2
  rw [n5]
  exact ⟨⟨_, g6, rfl⟩, h _ g6 g4 g5 ⟨_, g1, rfl, rfl⟩ ⟨_, g2, rfl, rfl⟩ ⟨_, g3, rfl, rfl⟩ old⟩
end
/-- the lists at a, b and c, of one length, item by item in new triples -/
def ItzT (K : PySem.W.Frag) (a b c : Addr) : It :=
  ⟨fun i H => ∃ (xs ys zs : List V) (x y z : V), SqL K H a xs ∧ SqL K H b ys ∧ SqL K H c zs ∧ xs[i]? = some x ∧ ys[i]? = some y ∧ zs[i]? = some z,
    fun i H v H' => ∃ T x y z, v = .ref T ∧ H T = none ∧ H' = upd H T (.tup [x, y, z]) ∧ (∀ xs, SqL K H a xs → xs[i]? = some x) ∧ (∀ ys, SqL K H b ys → ys[i]? = some y) ∧ ∀ zs, SqL K H c zs → zs[i]? = some z,
    fun i H => ∃ xs ys zs : List V, SqL K H a xs ∧ SqL K H b ys ∧ SqL K H c zs ∧ xs.length ≤ i ∧ ys.length ≤ i ∧ zs.length ≤ i⟩
theorem turn_zip3 {P : Program} {w : World} {K : PySem.W.Frag} {elts : List Expr} {kk : Nat} {tpos : Pos} {a b c I : Nat} (D : a < I ∧ b < I ∧ c < I) :
    Turn P w K (.Tuple elts kk tpos) (ItzT K a b c) [I + 5, I + 3, I + 4, I, I + 1, I + 2] (I + 5) (fun i h => ZipS h (I + 5) (I + 3) (I + 4) .none ∧ IsTrip h (I + 3) (.ref I) (.ref (I + 1)) (.ref (I + 2)) ∧ (∃ x y z, IsTrip h (I + 4) x y z) ∧ h.IsListIter I a i ∧ h.IsListIter (I + 1) b i ∧ h.IsListIter (I + 2) c i) where
  mem := by simp
  obj := fun i h st e hc => by
    obtain ⟨hz, hTI, ⟨x, y, z, hTO⟩, ⟨o1, e1, _, d1⟩, ⟨o2, e2, _, d2⟩, ⟨o3, e3, _, d3⟩⟩ := st
    simp only [List.mem_cons, List.not_mem_nil, or_false] at hc
    rcases hc with q | q | q | q | q | q <;> rw [q]
    · exact ⟨_, hz, fun v q => nomatch q⟩
    · exact ⟨_, hTI, fun v q => nomatch q⟩
    · exact ⟨_, hTO, fun v q => nomatch q⟩
    · exact ⟨o1, e1, fun v q => by rw [d1] at q; cases q⟩
    · exact ⟨o2, e2, fun v q => by rw [d2] at q; cases q⟩
    · exact ⟨o3, e3, fun v q => by rw [d3] at q; cases q⟩
  keep := fun i h h' st k => by
    obtain ⟨hz, hTI, ⟨x, y, z, hTO⟩, h1, h2, h3⟩ := st
    exact ⟨k (I + 5) (by simp) _ hz, k (I + 3) (by simp) _ hTI, ⟨x, y, z, k (I + 4) (by simp) _ hTO⟩, h1.at fun o q => k I (by simp) o q, h2.at fun o q => k (I + 1) (by simp) o q, h3.at fun o q => k (I + 2) (by simp) o q⟩
  item := by
    intro X hP hw hK hc i pins s σ H E J hf st hg
    subst hP hw hK
    obtain ⟨hz, hTI, ⟨x0, y0, z0, hTO⟩, h1, h2, h3⟩ := st
    obtain ⟨xs, ys, zs, x, y, z, hqx, hqy, hqz, hx, hy, hzz⟩ := hg
    obtain ⟨its, rv, p, _⟩ := J.list hqx
    obtain ⟨its2, rv2, p2, _⟩ := J.list hqy
    obtain ⟨its3, rv3, p3, _⟩ := J.list hqz
    obtain ⟨u, hu, ru⟩ := rv.get hx
    obtain ⟨u2, hu2, ru2⟩ := rv2.get hy
    obtain ⟨u3, hu3, ru3⟩ := rv3.get hzz
    have hzl : I + 5 < s.heap.objs.size := Heap.lt_size hz
    refine z3_next_item D hz hTI hTO h1 h2 h3 p.isList p2.isList p3.isList (x := u) (y := u2) (u := u3) (by simpa using hu) (by simpa using hu2) (by simpa using hu3) fun h' z' TO' h1' h2' h3' hT hsz hk => ?_
    refine ⟨_, rfl, zs_go (s := { s with heap := h' }) z' fun h'' z'' sb => ?_⟩
    have hT2 : h''.get? s.heap.objs.size = some { cls := .type "tuple", data := .seq #[u, u2, u3] } := (sb.2 _ (Nat.ne_of_gt hzl)).trans hT
    have new : ObjOk X.prog X.w (upd H s.heap.objs.size (.tup [x, y, z])) h'' s.heap.objs.size (.tup [x, y, z]) :=
      ⟨by show 3 ≤ sizeLine; decide, [u, u2, u3], .cons ru (.cons ru2 (.cons ru3 .nil)), ⟨_, hT2, rfl, _, rfl⟩⟩
    have I1 : Inv X pins σ (upd H s.heap.objs.size (.tup [x, y, z])) { s with heap := h'' } :=
      J.turnedNew (t' := s.toks) (ch := [I + 5, I + 3, I + 4, I, I + 1, I + 2]) (fun c o hb q => (sb.2 c (fun q' => hb (by simp [q']))).trans (hk c o (fun q' => hb (by simp [q'])) (fun q' => hb (by simp [q'])) (fun q' => hb (by simp [q'])) (fun q' => hb (by simp [q'])) (fun q' => hb (by simp [q'])) q)) hf (Nat.le_refl _) new
    refine ⟨.ref s.heap.objs.size, _, I1, rfl, ⟨_, x, y, z, rfl, J.hok.fresh (Nat.le_refl _), rfl, fun l hl => by rw [J.list_inj hl hqx]; exact hx, fun l hl => by rw [J.list_inj hl hqy]; exact hy, fun l hl => by rw [J.list_inj hl hqz]; exact hzz⟩, ⟨z'', ?_, ⟨u, u2, u3, ?_⟩, ?_, ?_, ?_⟩, fun c hcm => ?_⟩
    · exact (sb.2 _ (by show @Ne Nat _ _; omega)).trans (hk _ _ (by show @Ne Nat _ _; omega) (by show @Ne Nat _ _; omega) (by show @Ne Nat _ _; omega) (by show @Ne Nat _ _; omega) (by show @Ne Nat _ _; omega) hTI)
    · exact (sb.2 _ (by show @Ne Nat _ _; omega)).trans TO'
    · exact h1'.at fun o q => (sb.2 _ (by show @Ne Nat _ _; omega)).trans q
    · exact h2'.at fun o q => (sb.2 _ (by show @Ne Nat _ _; omega)).trans q
    · exact h3'.at fun o q => (sb.2 _ (by show @Ne Nat _ _; omega)).trans q
    · have hlt : c < s.heap.objs.size := by
        simp only [List.mem_cons, List.not_mem_nil, or_false] at hcm
        rcases hcm with q | q | q | q | q | q <;> rw [q]
        · exact hzl
        · exact Heap.lt_size hTI
        · exact Heap.lt_size hTO
        · obtain ⟨_, e1, _⟩ := h1; exact Heap.lt_size e1
        · obtain ⟨_, e2, _⟩ := h2; exact Heap.lt_size e2
        · obtain ⟨_, e3, _⟩ := h3; exact Heap.lt_size e3
      rw [upd_ne (Nat.ne_of_lt hlt)]
      exact (hf c hcm).1
  done := by
    intro X hP hw hK hc i pins s σ H E J hf st hg
    subst hP hw hK
    obtain ⟨hz, hTI, ⟨x0, y0, z0, hTO⟩, h1, h2, h3⟩ := st
    obtain ⟨xs, ys, zs, hqx, hqy, hqz, l1, l2, l3⟩ := hg
    obtain ⟨its, rv, p, _⟩ := J.list hqx
    obtain ⟨its2, rv2, p2, _⟩ := J.list hqy
    obtain ⟨its3, rv3, p3, _⟩ := J.list hqz
    have m1 := rv.length
    have m2 := rv2.length
    have m3 := rv3.length
    exact z3_next_end (J.ok.hd hc) D hz hTI hTO h1 h2 h3 p.isList p2.isList p3.isList (by simp; omega) (by simp; omega) (by simp; omega) fun h' hk => ⟨rfl, J.turnedL (t' := s.toks) (ch := [I + 5, I + 3, I + 4, I, I + 1, I + 2]) (fun c o hb q =>
      hk c o (fun q' => hb (by simp [q'])) (fun q' => hb (by simp [q'])) (fun q' => hb (by simp [q'])) (fun q' => hb (by simp [q'])) (fun q' => hb (by simp [q'])) q) hf⟩
  self := fun A i s Q E st h => zs_iter st.1 h
def iZip3 (K : PySem.W.Frag) (ta : TA) : TI := fun σ H R => ta σ H fun vs H1 => ∃ a b c xs ys zs, vs = [.ref a, .ref b, .ref c] ∧ SqL K H1 a xs ∧ SqL K H1 b ys ∧ SqL K H1 c zs ∧ R (ItzT K a b c) H1
theorem pi_zip3 {X : Cx} {e e2 e3 : Expr} {ta : TA} {p pos tpos cp kp : Pos} {elts : List Expr} {kk j : Nat} (hg : Gl X "zip") (hm : X.mg "zip" = none) (ha : PA X [e, e2, e3] ta)
    (he : backTo pos (starEach [e, e2, e3] X.env) = (false, eval e X.env) :: backTo pos (starEach [e2, e3] X.env) := by rfl) (hpl : (backTo pos (starEach [e, e2, e3] X.env)).any (·.1) = false := by rfl) :
    PI X (.Tuple elts kk tpos) (.Call (.Name "zip" p) [e, e2, e3] [⟨some "strict", .Constant (.bool true) j cp, kp⟩] pos) (iZip3 X.K ta) := by
  refine ⟨fun pins s σ H R I h => ?_⟩
  refine wpAny_Call_Name_kw (ld_blt I hg hm PyProof.Rows.boot_zip (callWith_tk hpl rfl ?_))
  rw [he]
  refine evalArgs_kwB rfl ?_
  rw [← he]
  refine thn (ha.run pos pins s σ H _ I h) fun us s1 ⟨vs, H1, I1, r1, q1⟩ => ?_
  refine kws_cons (Constant_bool (kws_nil ?_))
  obtain ⟨a, b, c, xs, ys, zs, ex, hqx, hqy, hqz, q⟩ := q1
  subst ex
  cases r1 with
  | cons r rr =>
    cases rr with
    | cons r' rr =>
      cases rr with
      | cons r'' rr =>
        cases rr
        cases r
        cases r'
        cases r''
        obtain ⟨its, rv, p1, _⟩ := I1.list hqx
        obtain ⟨its2, rv2, p2, _⟩ := I1.list hqy
        obtain ⟨its3, rv3, p3, _⟩ := I1.list hqz
        have la : a < s1.heap.objs.size := p1.lt
        have lb : b < s1.heap.objs.size := p2.lt
        have lc : c < s1.heap.objs.size := p3.lt
        refine call_zip3 p1.isList p2.isList p3.isList fun h' hz hTI hTO h1 h2 h3 hk => zs_iter hz ?_
        have I2 : Inv X pins σ H1 { s1 with heap := h' } := I1.kept (t' := s1.toks) hk
        refine ⟨s1.heap.objs.size + 5, [s1.heap.objs.size + 5, s1.heap.objs.size + 3, s1.heap.objs.size + 4, s1.heap.objs.size, s1.heap.objs.size + 1, s1.heap.objs.size + 2], _, _, H1, rfl, I2, turn_zip3 (I := s1.heap.objs.size) ⟨la, lb, lc⟩, ⟨hz, hTI, ⟨_, _, _, hTO⟩, h1, h2, h3⟩, fun c hcm => ?_, q⟩
        have hle : s1.heap.objs.size ≤ c := by
          simp only [List.mem_cons, List.not_mem_nil, or_false] at hcm
          rcases hcm with z | z | z | z | z | z <;> rw [z] <;> omega
        exact I1.fpOk hle (I1.hok.fresh hle)
section
variable {X : Cx} {F : Fr} {s : S} {a b c : Expr} {p pos tpos cp kp : Pos} {elts : List Expr} {kk j : Nat} {Θ : Nat → (Nat → E → Prop) → S → Prop}
/-- three whole frozen lists of one length, in triples -/
def itT (ds es fs : List D) : Nat → E → Prop := fun i e => ∃ d d2 d3, ds[i]? = some d ∧ es[i]? = some d2 ∧ fs[i]? = some d3 ∧ e = .d (.nd .tup [d, d2, d3])
theorem ji_zip3 (g : GlB X "zip") (h : JE X F a s fun e1 s1 => JE X F b s1 fun e2 s2 => JE X F c s2 fun e3 s3 => ∃ ds es fs, e1 = .d (.nd .lst ds) ∧ e2 = .d (.nd .lst es) ∧ e3 = .d (.nd .lst fs) ∧ ds.length = es.length ∧ ds.length = fs.length ∧ Θ ds.length (itT ds es fs) s3)
    (ns : NoStar a := by intro _ _; rfl) (ns2 : NoStar b := by intro _ _; rfl) (ns3 : NoStar c := by intro _ _; rfl) : JI X F (.Tuple elts kk tpos) (.Call (.Name "zip" p) [a, b, c] [⟨some "strict", .Constant (.bool true) j cp, kp⟩] pos) s Θ := fun as G H σ R c k => by
  refine PI.sem (pi_zip3 g.gl g.mg (pa_cons (pe_sem X a) (pa_cons (pe_sem X b) (pa_cons (pe_sem X _) pa_nil (ns3 _ _)) (ns2 _ _)) (ns _ _)) (by rw [ns, ns2, ns3]; rfl) (by rw [ns, ns2, ns3]; rfl)) ?_
  refine h as G H σ _ c fun v1 as1 G1 H1 e1 s1 c1 x1 ve1 h1 => h1 as1 G1 H1 σ _ c1 fun v2 as2 G2 H2 e2 s2 c2 x2 ve2 h2 => h2 as2 G2 H2 σ _ c2 fun v3 as3 G3 H3 e3 s3 c3 x3 ve3 ⟨ds, es, fs, q1, q2, q3, hl, hl3, q⟩ => ?_
  subst q1 q2 q3
  cases ve1 with
  | @nd l1 vs _ _ n r =>
    cases ve2 with
    | @nd l2 ws _ _ n2 r2 =>
      cases ve3 with
      | @nd l3 us _ _ n3 r3 =>
        have m1 : SqL X.K G3 l1 vs := (show NodeAt X.K G1 l1 vs .lst from n).mono (x2.sub.trans x3.sub)
        have m2 : SqL X.K G3 l2 ws := (show NodeAt X.K G2 l2 ws .lst from n2).mono x3.sub
        have m3 : SqL X.K G3 l3 us := n3
        have r1' : Reps X.K G3 vs ds := r.mono (x2.sub.trans x3.sub)
        have r2' : Reps X.K G3 ws es := r2.mono x3.sub
        have at1 : ∀ {as' : List Addr} {G' H' : Hp} {σ' : L2.St} {s' : S}, Cz X F as' G' H' σ' s' → Same G3 G' → SqL X.K H' l1 vs := fun c' x => ((show NodeAt X.K G3 l1 vs .lst from m1).mono x).mono c'.sub
        have at2 : ∀ {as' : List Addr} {G' H' : Hp} {σ' : L2.St} {s' : S}, Cz X F as' G' H' σ' s' → Same G3 G' → SqL X.K H' l2 ws := fun c' x => ((show NodeAt X.K G3 l2 ws .lst from m2).mono x).mono c'.sub
        have at3 : ∀ {as' : List Addr} {G' H' : Hp} {σ' : L2.St} {s' : S}, Cz X F as' G' H' σ' s' → Same G3 G' → SqL X.K H' l3 us := fun c' x => ((show NodeAt X.K G3 l3 us .lst from m3).mono x).mono c'.sub
        have el1 : vs.length = ds.length := r1'.length
        have el2 : ws.length = es.length := r2'.length
        have el3 : us.length = fs.length := r3.length
        refine ⟨l1, l2, l3, vs, ws, us, rfl, (show NodeAt X.K G3 l1 vs .lst from m1).mono c3.sub, (show NodeAt X.K G3 l2 ws .lst from m2).mono c3.sub, (show NodeAt X.K G3 l3 us .lst from m3).mono c3.sub, k (ItzT X.K l1 l2 l3) as3 G3 H3 s3 ds.length (itT ds es fs) c3 (x1.trans (x2.trans x3)) ?_ q⟩
        refine ⟨fun as' G' H' σ' s' c' x => ⟨vs, ws, us, at1 c' x, at2 c' x, at3 c' x, by omega, by omega, by omega⟩, fun i as' G' H' σ' s' hi c' x => ⟨vs, ws, us, vs[i]'(by omega), ws[i]'(by omega), us[i]'(by omega), at1 c' x, at2 c' x, at3 c' x, List.getElem?_eq_getElem _, List.getElem?_eq_getElem _, List.getElem?_eq_getElem _⟩,
          fun i as' G' H' σ' s' y H3 hi c' x q => ?_, fun i as' G' H' σ' s' y H3 hi c' x q => ?_⟩
        · obtain ⟨T, u, u2, u3, rfl, hT, rfl, g1, g2, g3⟩ := q
          obtain ⟨d, e1, e2⟩ := r1'.get' (g1 vs (at1 c' x))
          obtain ⟨d2, e3, e4⟩ := r2'.get' (g2 ws (at2 c' x))
          obtain ⟨d3, e5, e6⟩ := r3.get' (g3 us (at3 c' x))
          have sg : Same G' (upd G' T (.tup [u, u2, u3])) := same_new (c'.gnone hT)
          refine ⟨upd G' T (.tup [u, u2, u3]), .d (.nd .tup [d, d2, d3]), c'.addG hT, ⟨sg, fun b0 hb hg => ?_⟩, ?_, d, d2, d3, e1, e3, e5, rfl⟩
          · rw [upd_ne (fun z => hb (by rw [z]; exact hT))]; exact hg
          · exact .nd (k := .tup) (SqT.of upd_same) (.cons ((e2.mono x).mono sg) (.cons ((e4.mono x).mono sg) (.cons ((e6.mono x).mono sg) .nil)))
        · obtain ⟨T, u, u2, u3, rfl, hT, rfl, g1, g2, g3⟩ := q
          exact same_new hT
end
end DL
namespace DL
open PySem PySem.Spec PyProof.Rows L2
section
variable {X : Cx} {F : Fr} {P : Po} {G H : Hp} {σ : L2.St}
/-- the last cell but one dies: the last one takes its place -/
structure Mv (n : Nat) (p q : S) (cs : List Cell) (kd : Kd) (ds : List D) : Prop where
  ce : ∃ c0, p.ce = cs ++ [c0, .nd kd (ds.map .d)]
  cq : q.ce = cs ++ [.nd kd (ds.map .d)]
  hn : cs.length = n
  len : q.sl.length = p.sl.length
  ar : q.ar = p.ar
  fit : p.ar ≤ n
  old : cs.all (Cell.ltB n) = true
  sl : ∀ (i : Nat) (e : E), q.sl[i]? = some (some e) → (e.lt n = true ∧ p.sl[i]? = some (some e)) ∨ (e = .r n ∧ p.sl[i]? = some (some (.r (n + 1))))
theorem Cz.mv {as : List Addr} {s s' : S} {n : Nat} {cs : List Cell} {kd : Kd} {ds : List D} (c : Cz X F as G H σ s) (w : Mv n s s' cs kd ds) : ∃ as', Cz X F as' G H σ s' := by
  obtain ⟨c0, hce⟩ := w.ce
  have hn := w.hn
  have hl : as.length = n + 2 := by rw [c.len, hce, List.length_append, hn]; rfl
  obtain ⟨l, x, y, rfl⟩ : ∃ l x y, as = l ++ [x, y] := by
    refine ⟨as.take n, as[n]'(by omega), as[n + 1]'(by omega), ?_⟩
    apply List.ext_getElem?
    intro i
    by_cases h : i < n
    · rw [List.getElem?_append_left (by rw [List.length_take]; omega), List.getElem?_take_of_lt h]
    · rw [List.getElem?_append_right (by rw [List.length_take]; omega), List.length_take, Nat.min_eq_left (by omega)]
      by_cases h2 : i = n
      · subst h2; rw [Nat.sub_self, List.getElem?_eq_getElem (by omega)]; rfl
      · by_cases h3 : i = n + 1
        · subst h3
          rw [show n + 1 - n = 1 by omega, List.getElem?_eq_getElem (by omega)]; rfl
        · rw [List.getElem?_eq_none (by omega), List.getElem?_eq_none (by simp; omega)]
  have ll : l.length = n := by rw [List.length_append] at hl; simp at hl; omega
  have g1 : ∀ {k : Nat} {a : Addr}, k < n → (l ++ [x, y])[k]? = some a → (l ++ [y])[k]? = some a := fun {k a} h q => by
    rw [List.getElem?_append_left (by omega)] at q ⊢; exact q
  have g2 : (l ++ [x, y])[n + 1]? = some y := by rw [List.getElem?_append_right (by omega), ll, show n + 1 - n = 1 by omega]; rfl
  have g3 : (l ++ [y])[n]? = some y := by rw [List.getElem?_append_right (by omega), ll, Nat.sub_self]; rfl
  have g4 : ∀ {k : Nat} {a : Addr}, (l ++ [y])[k]? = some a → (k < n ∧ (l ++ [x, y])[k]? = some a) ∨ (k = n ∧ a = y) := fun {k a} q => by
    by_cases h : k < n
    · refine .inl ⟨h, ?_⟩
      rw [List.getElem?_append_left (by omega)] at q ⊢; exact q
    · have := (List.getElem?_eq_some_iff.mp q).1
      rw [List.length_append] at this
      have hk : k = n := by simp at this; omega
      subst hk
      rw [g3] at q
      exact .inr ⟨rfl, (Option.some.inj q).symm⟩
  have c1 : ∀ {k : Nat} {z : Cell}, k < n → s'.ce[k]? = some z → s.ce[k]? = some z := fun {k z} h q => by
    rw [w.cq, List.getElem?_append_left (by omega)] at q
    rw [hce, List.getElem?_append_left (by omega)]; exact q
  have c2 : s.ce[n + 1]? = some (.nd kd (ds.map .d)) := by rw [hce, List.getElem?_append_right (by omega), hn, show n + 1 - n = 1 by omega]; rfl
  have c3 : s'.ce[n]? = some (.nd kd (ds.map .d)) := by rw [w.cq, List.getElem?_append_right (by omega), hn, Nat.sub_self]; rfl
  have sub : ∀ a ∈ l ++ [y], a ∈ l ++ [x, y] := fun a ha => by
    rcases List.mem_append.mp ha with h | h
    · exact List.mem_append_left _ h
    · exact List.mem_append_right _ (by simp at h; simp [h])
  have ve : ∀ {v : V} {e : E}, VE X.K G (l ++ [x, y]) v e → e.lt n = true → VE X.K G (l ++ [y]) v e := fun {v e} q h => by
    cases e with
    | d x => exact q
    | r k =>
      obtain ⟨a, q1, q2⟩ := q
      exact ⟨a, g1 (by simpa [E.lt] using h) q1, q2⟩
  have ves : ∀ {vs : List V} {es : List E}, VEs X.K G (l ++ [x, y]) vs es → (∀ e ∈ es, E.lt n e = true) → VEs X.K G (l ++ [y]) vs es := by
    intro vs es h
    induction h with
    | nil => intro _; exact .nil
    | cons h _ ih => intro l; exact .cons (ve h (l _ List.mem_cons_self)) (ih fun e he => l e (List.mem_cons_of_mem _ he))
  refine ⟨l ++ [y], c.sub, c.base, c.new, c.frame, ?_, ?_, ?_, ?_, fun a ha => c.fresh a (sub a ha), fun a ha => c.there a (sub a ha), ?_, ?_, ?_, ?_⟩
  · rw [w.cq, List.length_append, List.length_append, ll, hn]; rfl
  · obtain ⟨t, ht⟩ := c.pre
    have hA : F.A0.length ≤ n := by rw [c.har]; exact w.fit
    have : F.A0 <+: l := by
      refine List.prefix_of_prefix_length_le (l₃ := l ++ [x, y]) ⟨t, ht⟩ ⟨_, rfl⟩ (by omega)
    exact this.trans ⟨_, rfl⟩
  · exact c.nd.sublist (List.Sublist.append_left (List.sublist_cons_self x [y]) l)
  · intro k a kd' es q1 q2
    rcases g4 q1 with ⟨h, q⟩ | ⟨rfl, rfl⟩
    · exact c.own k a kd' es q (c1 h q2)
    · exact c.own _ a kd (ds.map .d) g2 c2
  · intro k kd' es q
    by_cases h : k < n
    · obtain ⟨a, vs, q1, q2, q3⟩ := c.cells k kd' es (c1 h q)
      refine ⟨a, vs, g1 h q1, q2, ves q3 fun e he => ?_⟩
      have hm : Cell.nd kd' es ∈ cs := by
        rw [w.cq, List.getElem?_append_left (by omega)] at q
        exact List.mem_of_getElem? q
      have := List.all_eq_true.mp w.old _ hm
      exact List.all_eq_true.mp this e he
    · have hk : k = n := by
        have := (List.getElem?_eq_some_iff.mp q).1
        rw [w.cq, List.length_append] at this
        simp at this; omega
      subst hk
      rw [c3] at q
      cases q
      obtain ⟨a, vs, q1, q2, q3⟩ := c.cells _ kd _ c2
      rw [g2] at q1
      cases q1
      exact ⟨y, vs, g3, q2, ves q3 fun e he => by
        obtain ⟨d, _, rfl⟩ := List.mem_map.mp he
        rfl⟩
  · intro i e he
    rcases w.sl i e he with ⟨h1, h2⟩ | ⟨rfl, h2⟩
    · obtain ⟨v, q1, q2⟩ := c.slots i e h2
      exact ⟨v, q1, ve q2 h1⟩
    · obtain ⟨v, q1, a, q2, q3⟩ := c.slots i _ h2
      rw [g2] at q2
      cases q2
      exact ⟨v, q1, y, g3, q3⟩
  · rw [w.len]; exact c.slen
  · rw [w.ar]; exact c.har
theorem jss_mv {sts : List Stmt} {s s' : S} {n : Nat} {cs : List Cell} {kd : Kd} {ds : List D} (w : Mv n s s' cs kd ds) (h : JSs X F sts s' P) : JSs X F sts s P := fun as G H σ D c k => by
  obtain ⟨as', c'⟩ := c.mv w
  exact h as' G H σ D c' (k.exs (Same.refl _))
end
end DL
namespace DL
open PySem PySem.Spec PyProof.Rows L2
variable {X : Cx} {F : Fr} {s : S}
/-! ### comprehensions that walk an owned list -/
section
variable {elt iter : Expr} {scope : Scope} {own : List (Str × Nat)} {pos p : Pos} {x : Str} {j B : Nat} {Φ : E → S → Prop}
/-- walks the owned cell k, whose items are data -/
def LcO (X : Cx) (F : Fr) (iter elt : Expr) (scope : Scope) (vs : List Nat) (j : Nat) (s : S) (Θ : List D → S → Prop) : Prop :=
  JE X F iter s fun e s1 => ∃ (k : Nat) (ds : List D), e = .r k ∧ nth s1.ce k = some (.nd .lst (ds.map .d)) ∧ ds.length ≤ 16000000 ∧ ∃ In : Nat → List D → S → Prop, In 0 [] (s1.wipe vs) ∧
    (∀ i acc t, In i acc t → t.wipe vs = t ∧ t.ce.length = s1.ce.length ∧ nth t.ce k = some (.nd .lst (ds.map .d))) ∧
    (∀ i v acc t, ds[i]? = some v → acc.length = i → In i acc t → ∀ Y, IsBlk X scope Y → JE Y F elt (t.blkI acc j (.d v)) fun y s3 => ∃ d t', y = .d d ∧ s3 = t'.blkI acc j (.d v) ∧ In (i + 1) (acc ++ [d]) t') ∧
    ∀ acc t, acc.length = ds.length → In ds.length acc t → Θ acc ⟨s1.sl, t.ce, s1.ar⟩
theorem blk_cell {t : S} {acc : List D} {v : E} {k : Nat} {c : Cell} (h : nth t.ce k = some c) : nth (t.push .lst (acc.map .d)).ce k = some c := by
  rw [nth_eq] at h ⊢
  show (t.ce ++ [_])[k]? = _
  rw [List.getElem?_append_left (List.getElem?_eq_some_iff.mp h).1]
  exact h
theorem lcO_read {Θ : List D → S → Prop} (hj : j ∈ own.map (·.2)) (h : LcO X F iter elt scope (own.map (·.2)) j s Θ) (hΘ : ∀ acc t, Θ acc t → Φ (.r t.ce.length) (t.push .lst (acc.map .d))) :
    ∀ as G H σ (Q : VK), Cz X F as G H σ s → (∀ v as' G' H' e' s', Cz X F as' G' H' σ s' → Ext as as' G G' → VE X.K G' as' v e' → Φ e' s' → Q v H') → tLc (semI X (.Name x p) iter) (gName j) (ttB X scope []) (teB X scope elt) (own.map (·.2)) σ H Q := by
  refine fun as G H σ Q c kk => PI.sem (X := X) (tg := .Name x p) (iter := iter) (pi_list (pe_sem X iter)) (h as G H σ _ c fun v as1 G1 H1 e1 s1 c1 x1 ve ⟨k, ds, e2, hk0, hn, In, h0, hI, ht, hd⟩ => ?_)
  subst e2
  obtain ⟨a, hka, rfl⟩ := ve
  have at_ : ∀ {as' : List Addr} {G' H' : Hp} {σ' : L2.St} {s' : S}, Cz X F as' G' H' σ' s' → as1 <+: as' → nth s'.ce k = some (.nd .lst (ds.map .d)) → ∃ vs, SqL X.K H' a vs ∧ Reps X.K G' vs ds := fun {as' G' H' σ' s'} c' pr hk => by
    rw [nth_eq] at hk
    obtain ⟨b, vs, y1, y2, y3⟩ := c'.cells k _ _ hk
    rw [pre_get pr hka] at y1
    cases y1
    exact ⟨vs, SqL.of y2, y3.reps⟩
  obtain ⟨vs0, q0, r0⟩ := at_ c1 (List.prefix_refl _) hk0
  refine ⟨a, rfl, ⟨vs0, q0⟩, ?_⟩
  intro D hD
  have c1' := (c1.wipe (own.map (·.2))).addO (kd := .lst) (o := .lst []) (vs := []) (es := []) hD upd_same .nil
  have hk : s1.ce.length = as1.length := c1.len.symm
  refine ⟨fun i m H' => m = ds.length - i ∧ i ≤ ds.length ∧ ∃ as' G' t acc, acc.length = i ∧ Cz X F as' G' H' (wipe σ (own.map (·.2))) (t.push .lst (acc.map .d)) ∧ as1 ++ [D] <+: as' ∧ Same G1 G' ∧ In i acc t, ⟨ds.length, by simp, Nat.zero_le _, _, _, _, [], rfl, c1', List.prefix_refl _, Same.refl _, h0⟩, ?_⟩
  rintro i m H' ⟨rfl, hi, as', G', t, acc, hal, c', pr, sg, q⟩
  obtain ⟨i1, i2, i3⟩ := hI i acc t q
  have pr1 : as1 <+: as' := pre_snoc.trans pr
  obtain ⟨vs, q1, r1⟩ := at_ c' pr1 (blk_cell (v := .d .non) i3)
  have prD : as'[s1.ce.length]? = some D := pre_get pr (by rw [hk, List.getElem?_append_right (Nat.le_refl _)]; simp)
  by_cases hlt : i < ds.length
  · refine .inr ⟨⟨vs, vs[i]'(by rw [r1.length]; exact hlt), q1, List.getElem?_eq_getElem _⟩, fun H2 => ∃ as' G' t acc, acc.length = i + 1 ∧ Cz X F as' G' H2 (wipe σ (own.map (·.2))) (t.push .lst (acc.map .d)) ∧ as1 ++ [D] <+: as' ∧ Same G1 G' ∧ In (i + 1) acc t, fun H2 ⟨as2, G2, s2, acc2, l2, c2, p2, g2, q2⟩ => ⟨ds.length - (i + 1), by omega, rfl, hlt, as2, G2, s2, acc2, l2, c2, p2, g2, q2⟩, fun v H2 y => ?_⟩
    obtain ⟨rfl, y⟩ := y
    obtain ⟨d, hd1, hd2⟩ := r1.get' (y vs q1)
    have c3 := c'.set (i := j) (show VE X.K G' as' v (.d d) from hd2)
    have ws : wipe ((wipe σ (own.map (·.2))).set j (some v)) (own.map (·.2)) = wipe σ (own.map (·.2)) := wipe_same (by rw [List.length_set, wipe_length]) fun l hl => by
      rw [List.getElem?_set_ne (fun z => hl (by rw [← z]; exact hj)), wipe_out' hl]
    refine ⟨ws, fun Y hY pins st I => jts_run (Ψ := fun b s2 => b = true ∧ s2 = (t.push .lst (acc.map .d)).set j (.d d)) (show JTs Y F [] _ _ from ⟨rfl, rfl⟩) (cz_blk hY c3) (fun b as4 G4 H4 s4 c4 x4 q4 => ?_) pins st I⟩
    obtain ⟨rfl, rfl⟩ := q4
    simp only [if_true]
    refine fun Y2 hY2 => ht i d acc t hd1 hal q Y2 hY2 as4 G4 H4 _ _ (cz_blk hY2 (cz_ublk hY c4)) fun y as5 G5 H5 y' s5 c5 x5 ve5 ⟨d5, t5, w1, w2, w3⟩ => ?_
    subst w1 w2
    obtain ⟨j1, j2, j3⟩ := hI (i + 1) _ t5 w3
    have c5 := cz_ublk hY2 c5
    rw [hY2.K] at ve5
    have p5 : as1 ++ [D] <+: as5 := (pr.trans x4.pre).trans x5.pre
    have prD5 : as5[s1.ce.length]? = some D := pre_get p5 (by rw [hk, List.getElem?_append_right (Nat.le_refl _)]; simp)
    have w1 : (t5.blkI acc j (.d d)).ce[s1.ce.length]? = some (.nd .lst (acc.map .d)) := by
      show (t5.ce ++ [_])[s1.ce.length]? = _
      rw [← j2, List.getElem?_append_right (Nat.le_refl _)]; simp
    obtain ⟨b, ws5, y1, y2, y3⟩ := c5.cells _ _ _ w1
    rw [prD5] at y1
    cases y1
    have y2' : H5 D = some (.lst ws5) := y2
    have hl := Paired.length y3
    refine ⟨ws5, y2', by rw [hl, List.length_map, sizeLine_eq]; omega, ?_⟩
    have c6 := (c5.put (kd := .lst) (es := acc.map .d ++ [.d d5]) (o := .lst (ws5 ++ [y])) w1 prD5 upd_same (y3.snoc ve5)).wipe (own.map (·.2))
    rw [ws] at c6
    have e6 : ((t5.blkI acc j (.d d)).put s1.ce.length .lst (acc.map .d ++ [.d d5])).wipe (own.map (·.2)) = t5.push .lst ((acc ++ [d5]).map .d) := by
      have hput : ((t5.push .lst (acc.map .d)).set j (.d d)).put s1.ce.length .lst (acc.map .d ++ [.d d5]) = (t5.push .lst (acc.map .d ++ [.d d5])).set j (.d d) := by
        show (⟨_, setN (t5.ce ++ [Cell.nd .lst _]) s1.ce.length _, _⟩ : S) = ⟨_, t5.ce ++ [_], _⟩
        rw [setN_eq, ← j2, List.set_append_right _ _ (Nat.le_refl _)]
        simp
        exact ⟨rfl, rfl⟩
      show (((t5.push .lst (acc.map .d)).set j (.d d)).put s1.ce.length .lst (acc.map .d ++ [.d d5])).wipe _ = _
      rw [hput, set_wipe hj]
      have e7 : wipeN t5.sl (own.map (·.2)) = t5.sl := congrArg S.sl j1
      show (⟨wipeN t5.sl _, _, _⟩ : S) = ⟨t5.sl, _, _⟩
      rw [e7, List.map_append]
      rfl
    rw [e6] at c6
    exact ⟨as5, G5, t5, acc ++ [d5], by simp [hal], c6, p5, (sg.trans x4.sub).trans x5.sub, w3⟩
  · have e : i = ds.length := by omega
    subst e
    refine .inl ⟨⟨vs, q1, by rw [r1.length]; exact Nat.le_refl _⟩, ?_⟩
    have x : Ext as1 as' G1 G' := ⟨pr1, sg⟩
    have z := hΘ _ _ (hd acc t hal q)
    have e8 : (⟨s1.sl, t.ce, s1.ar⟩ : S).push .lst (acc.map .d) = ⟨s1.sl, (t.push .lst (acc.map .d)).ce, s1.ar⟩ := rfl
    rw [e8] at z
    refine kk _ as' G' H' (.r t.ce.length) _ (c1.back c' x) (x1.trans x) ⟨D, ?_, rfl⟩ z
    show as'[t.ce.length]? = some D
    rw [i2]; exact prD
/-- [..] over an owned list, owned -/
theorem je_lcO (bx : Bx X B) (ok : BlkOk X.N X.env.scope scope own) (hj : j ∈ own.map (·.2)) (hn : ∀ Y, IsBlk X scope Y → NmW Y j x)
    (h : LcO X F iter elt scope (own.map (·.2)) j s fun ds t => Φ (.r t.ce.length) (t.push .lst (ds.map .d)))
    (hs : ∀ x, foldedSetIterable iter X.env x = pure x := by intro _; rfl) : JE X F (.ListComp elt [⟨.Name x p, iter, [], 0⟩] scope pos) s Φ :=
  je_of (pe_lc bx.calm bx.nd (pi_sem X _ iter) ok (pg_B hn) pts_B pe_B hs) (lcO_read hj h fun _ _ z => z)
/-- name = [..] on one line, owned -/
theorem js_setLcO {i : Nat} {y : Str} {py spos : Pos} {P : Po} (bx : Bx X B) (ny : NmW X i y) (ly : X.env.scope.names.lookup y = some .local) (hsw : swapsWith (.ListComp elt [⟨.Name x p, iter, [], 0⟩] scope pos) (some (.Name y py)) spos.line X.env = pure true)
    (ok : BlkOk X.N X.env.scope scope own) (hj : j ∈ own.map (·.2)) (hn : ∀ Y, IsBlk X scope Y → NmW Y j x)
    (h : LcO X F iter elt scope (own.map (·.2)) j s fun ds t => P.nx ((t.push .lst (ds.map .d)).set i (.r t.ce.length)))
    (hs : ∀ x, foldedSetIterable iter X.env x = pure x := by intro _; rfl) : JS X F (.Assign [.Name y py] (.ListComp elt [⟨.Name x p, iter, [], 0⟩] scope pos) spos) s P := fun as G H σ D c k =>
  PS.sem (ps_setLc bx.calm bx.nd ny.nm ly hsw (pi_sem X _ iter) ok (pg_B hn) pts_B pe_B hs) (lcO_read (Φ := fun e1 s1 => P.nx (s1.set i e1)) hj h (fun _ _ z => z) as G H σ _ c fun v as1 G1 H1 e1 s1 c1 x1 ve q => k.nx as1 G1 H1 _ _ (c1.set ve) x1.sub q)
end
end DL
namespace DL
open PySem PySem.Spec PyProof.Rows L2
variable {X : Cx} {F : Fr} {s : S}
/-! ### instances: fields -/
def ixF : List Str → Str → Option Nat
  | [], _ => none
  | g :: gs, f => if f = g then some 0 else (ixF gs f).map (· + 1)
theorem lk_ix {f : Str} : ∀ {fs : List Str} {vs : List V} {i : Nat} {v : V}, ixF fs f = some i → vs[i]? = some v → (fs.zip vs).lookup f = some v
  | [], _, _, _, h, _ => by cases h
  | g :: gs, [], _, _, _, h => by simp at h
  | g :: gs, w :: vs, i, v, h, h2 => by
    unfold ixF at h
    rw [List.zip_cons_cons, List.lookup_cons]
    by_cases e : f = g
    · rw [if_pos e] at h
      cases h
      cases h2
      rw [beq_iff_eq.mpr e]
    · rw [if_neg e] at h
      rw [beq_eq_false_iff_ne.mpr e]
      cases q : ixF gs f with
      | none => rw [q] at h; cases h
      | some j =>
        rw [q] at h
        cases h
        exact lk_ix q h2
theorem lk_no {f : Str} : ∀ {fs : List Str} {vs : List V}, ixF fs f = none → (fs.zip vs).lookup f = none
  | [], _, _ => rfl
  | g :: gs, [], _ => rfl
  | g :: gs, w :: vs, h => by
    unfold ixF at h
    rw [List.zip_cons_cons, List.lookup_cons]
    by_cases e : f = g
    · rw [if_pos e] at h; cases h
    · rw [if_neg e] at h
      rw [beq_eq_false_iff_ne.mpr e]
      cases q : ixF gs f with
      | none => exact lk_no q
      | some j => rw [q] at h; cases h
theorem putF_cons (f g : Str) (v w : V) (r : List (Str × V)) : putF f v ((g, w) :: r) = if g = f then (g, v) :: r else (g, w) :: putF f v r := rfl
theorem put_ix {f : Str} {v : V} : ∀ {fs : List Str} {vs : List V} {i : Nat}, ixF fs f = some i → fs.length = vs.length → putF f v (fs.zip vs) = fs.zip (vs.set i v)
  | [], _, _, h, _ => by cases h
  | g :: gs, [], _, _, h => by simp at h
  | g :: gs, w :: vs, i, h, hl => by
    unfold ixF at h
    rw [List.zip_cons_cons, putF_cons]
    by_cases e : f = g
    · rw [if_pos e] at h
      cases h
      rw [if_pos e.symm]; rfl
    · rw [if_neg e] at h
      rw [if_neg (fun z => e z.symm)]
      cases q : ixF gs f with
      | none => rw [q] at h; cases h
      | some j =>
        rw [q] at h
        cases h
        rw [put_ix q (by simpa using hl)]; rfl
theorem put_no {f : Str} {v : V} : ∀ {fs : List Str} {vs : List V}, ixF fs f = none → fs.length = vs.length → putF f v (fs.zip vs) = (fs ++ [f]).zip (vs ++ [v])
  | [], [], _, _ => rfl
  | [], _ :: _, _, h => by simp at h
  | g :: gs, [], _, h => by simp at h
  | g :: gs, w :: vs, h, hl => by
    unfold ixF at h
    rw [List.zip_cons_cons, putF_cons]
    by_cases e : f = g
    · rw [if_pos e] at h; cases h
    · rw [if_neg e] at h
      rw [if_neg (fun z => e z.symm)]
      cases q : ixF gs f with
      | none => rw [put_no q (by simpa using hl)]; rfl
      | some j => rw [q] at h; cases h
/-- a class: its fields read and written plainly -/
structure ClF (K : PySem.W.Frag) (C : Addr) (FS : List Str) : Prop where
  cl : Cls K C
  na : ∀ f ∈ FS, NoAttr K C f
section
variable {e a b c o value : Expr} {es rest : List Expr} {Φ : E → S → Prop} {pos pos' p apos : Pos} {x m f : Str} {k B : Nat} {C : Addr} {FS : List Str}
/-- what a field is asked of -/
def FldQ (X : Cx) (s : S) (f : Str) (eo : E) (Φ : E → S → Prop) : Prop := ∃ C FS fs es i e, s.node eo = some (.ins C fs, es) ∧ ClF X.K C FS ∧ f ∈ FS ∧ ixF fs f = some i ∧ nth es i = some e ∧ Φ e s
theorem fq {fs : List Str} {es : List E} {i : Nat} {eo e : E} (hc : ClF X.K C FS) (hn : s.node eo = some (.ins C fs, es)) (hf : f ∈ FS) (hi : ixF fs f = some i) (he : nth es i = some e) (q : Φ e s) : FldQ X s f eo Φ := ⟨C, FS, fs, es, i, e, hn, hc, hf, hi, he, q⟩
theorem je_fld (h : JE X F o s fun eo s1 => FldQ X s1 f eo Φ) (hb : attributeBase o f X.env (eval o X.env) = eval o X.env := by rfl) : JE X F (.Attribute o f pos) s Φ :=
  je_of (pe_fld (pe_sem X o) hb) fun as G H σ Q c k => h as G H σ _ c fun v as1 G1 H1 e1 s1 c1 x1 ve ⟨C, FS, fs, es, i, e, hn, hc, hf, hi, he, q⟩ => by
    obtain ⟨a, ws, rfl, n, we⟩ := c1.node ve hn
    obtain ⟨hl, dx, hH⟩ := n
    rw [nth_eq] at he
    obtain ⟨v, hv, vve⟩ := we.get' he
    exact ⟨a, C, dx, _, v, rfl, hH, hc.cl, hc.na f hf, lk_ix hi hv, k v as1 G1 H1 e s1 c1 x1 vve q⟩
theorem ves_set {K : PySem.W.Frag} {G : Hp} {as : List Addr} {v : V} {e : E} (ve : VE K G as v e) : ∀ {vs : List V} {es : List E} (i : Nat), VEs K G as vs es → VEs K G as (vs.set i v) (es.set i e)
  | _, _, _, .nil => .nil
  | _, _, 0, .cons _ t => .cons ve t
  | _, _, i + 1, .cons r t => .cons r (ves_set ve i t)
/-- o.f = value: a field that is there -/
theorem js_fldO {P : Po} (h : JE X F value s fun v s1 => JE X F o s1 fun eo s2 => ∃ k C FS fs es i, eo = .r k ∧ nth s2.ce k = some (.nd (.ins C fs) es) ∧ ClF X.K C FS ∧ f ∈ FS ∧ fs.length < 1000 ∧ ixF fs f = some i ∧ P.nx (s2.put k (.ins C fs) (es.set i v)))
    (hs : swapsWith value (some (.Attribute o f pos')) pos.line X.env = pure false := by rfl) : JS X F (.Assign [.Attribute o f pos'] value pos) s P := fun as G H σ D c kk =>
  PS.sem (ps_fld (pe_sem X o) (pe_sem X value) hs) (h as G H σ _ c fun v as1 G1 H1 e1 s1 c1 x1 ve h1 => h1 as1 G1 H1 σ _ c1 fun v2 as2 G2 H2 e2 s2 c2 x2 ve2 ⟨k, C, FS, fs, es, i, q1, q2, hc, hf, hl, hi, q⟩ => by
    subst q1
    obtain ⟨a, ha, rfl⟩ := ve2
    rw [nth_eq] at q2
    obtain ⟨b, vs, y1, y2, y3⟩ := c2.cells k _ _ q2
    rw [ha] at y1
    cases y1
    obtain ⟨hfl, dx, hH⟩ := y2
    refine ⟨a, C, dx, _, rfl, hH, hc.cl, hc.na f hf, by rw [List.length_zip]; omega, ?_⟩
    rw [put_ix hi hfl]
    exact kk.nx as2 G2 _ σ _ (c2.put (kd := .ins C fs) q2 ha ⟨by rw [List.length_set]; exact hfl, dx, upd_same⟩ (ves_set (x2.ve ve) i y3)) (x1.trans x2).sub q)
/-- .. a new one -/
theorem js_fldN {P : Po} (h : JE X F value s fun v s1 => JE X F o s1 fun eo s2 => ∃ k C FS fs es, eo = .r k ∧ nth s2.ce k = some (.nd (.ins C fs) es) ∧ ClF X.K C FS ∧ f ∈ FS ∧ fs.length < 1000 ∧ ixF fs f = none ∧ P.nx (s2.put k (.ins C (fs ++ [f])) (es ++ [v])))
    (hs : swapsWith value (some (.Attribute o f pos')) pos.line X.env = pure false := by rfl) : JS X F (.Assign [.Attribute o f pos'] value pos) s P := fun as G H σ D c kk =>
  PS.sem (ps_fld (pe_sem X o) (pe_sem X value) hs) (h as G H σ _ c fun v as1 G1 H1 e1 s1 c1 x1 ve h1 => h1 as1 G1 H1 σ _ c1 fun v2 as2 G2 H2 e2 s2 c2 x2 ve2 ⟨k, C, FS, fs, es, q1, q2, hc, hf, hl, hi, q⟩ => by
    subst q1
    obtain ⟨a, ha, rfl⟩ := ve2
    rw [nth_eq] at q2
    obtain ⟨b, vs, y1, y2, y3⟩ := c2.cells k _ _ q2
    rw [ha] at y1
    cases y1
    obtain ⟨hfl, dx, hH⟩ := y2
    refine ⟨a, C, dx, _, rfl, hH, hc.cl, hc.na f hf, by rw [List.length_zip]; omega, ?_⟩
    rw [put_no hi hfl]
    exact kk.nx as2 G2 _ σ _ (c2.put (kd := .ins C (fs ++ [f])) q2 ha ⟨by rw [List.length_append, List.length_append, hfl]; rfl, dx, upd_same⟩ (y3.snoc (x2.ve ve))) (x1.trans x2).sub q)
/-! ### an object that nobody looks at -/
theorem Cz.lay {as : List Addr} {G H : Hp} {σ : L2.St} (c : Cz X F as G H σ s) {p : Addr} {o : HO} (h : H p = none) : Cz X F as G (upd H p o) σ s := by
  have gn := c.gnone h
  have ni := c.notin h
  have h0 := c.h0none h
  refine ⟨fun b u q => by rw [upd_ne (ne_of_none q gn)]; exact c.sub b u q, c.base, c.new, fun b u q1 q2 => by rw [upd_ne (ne_of_none q1 h0)]; exact c.frame b u q1 q2, c.len, c.pre, c.nd, c.own, c.fresh, fun a ha => ?_, fun k kd es hk => ?_, c.slots, c.slen, c.har⟩
  · rw [upd_ne (fun z => ni (by rw [← z]; exact ha))]; exact c.there a ha
  · obtain ⟨a, vs, h1, h2, h3⟩ := c.cells k kd es hk
    exact ⟨a, vs, h1, h2.keep fun u q => by rw [upd_ne (ne_of_none q h)]; exact q, h3⟩
/-! ### C(..) -/
structure CaM (P : Program) (w : World) (K : PySem.W.Frag) (mg : Str → Option Value) (base : Heap) (x : Str) (k : Nat) (C : Addr) (R : RS) : Prop where
  mono : MonoS R
  mgC : mg x = some (.ref C)
  ex : ∃ f fd ps, Mk K C f ∧ Binds K fd ps [] ∧ FnOk P w K mg base CX0 k f fd ps (spS K R)
structure CbM (X : Cx) (x : Str) (k : Nat) (C : Addr) (R : RS) : Prop where
  gl : Gl X x
  mono : MonoS R
  mgC : X.mg x = some (.ref C)
  ex : ∃ f fd ps, Mk X.K C f ∧ Binds X.K fd ps [] ∧ FnOk X.prog X.w X.K X.mg X.base CX0 k f fd ps (spS X.K R)
theorem CaM.at {X : Cx} {P : Program} {w : World} {K : PySem.W.Frag} {mg : Str → Option Value} {base : Heap} {N : List Str} {sc : Scope} {k j : Nat} {x : Str} {C : Addr} {R : RS} (c : CaM P w K mg base x j C R) (h : XIs X P w K mg base N sc k)
    (h1 : sc.names.lookup x = some .globalImplicit) : CbM X x j C R := by
  obtain ⟨e1, e2, e3, e4, e5, _⟩ := id h
  subst e1 e2 e3 e4 e5
  exact ⟨h.gl h1, c.mono, c.mgC, c.ex⟩
def MkQ (X : Cx) (C : Addr) (R : RS) (s1 : S) (vs : List E) (Φ : E → S → Prop) : Prop := ∃ js ce es0, Goes (s1.push (.ins C []) []) js ce ∧ (.r s1.ce.length :: vs) = es0.map (E.ren (jsF js (s1.push (.ins C []) []).ce.length)) ∧ es0.all (E.lt js.length) = true ∧ R ce es0 fun e ce' => e = .d .non ∧ Φ (.r s1.ce.length) ((s1.push (.ins C []) []).back js ce')
theorem make_go {R : RS} {f0 : Addr} {fd : FuncData} {ps : List Str} (mono : MonoS R) {as1 : List Addr} {G1 H1 : Hp} {σ : L2.St} {s1 : S} (c1 : Cz X F as1 G1 H1 σ s1) {vs : List V} {es1 : List E} (ves : VEs X.K G1 as1 vs es1) (q : MkQ X C R s1 es1 Φ) {Q : VK} {E0 : XK}
    (kk : ∀ v as' G' H' e' s', Cz X F as' G' H' σ s' → Ext as1 as' G1 G' → VE X.K G' as' v e' → Φ e' s' → Q v H') (x dx : Addr) (nx : H1 x = none) (ndx : H1 dx = none) (nex : dx ≠ x) :
    spS X.K R (.ref x :: (vs ++ [])) (upd (upd H1 dx (.own x)) x (.ins C dx [])) (fun v H2 => v = .non ∧ Q (.ref x) H2) E0 := by
  obtain ⟨js, ce, es0, g, q1, q2, hR⟩ := q
  rw [List.append_nil]
  have c2 : Cz X F as1 G1 (upd H1 dx (.own x)) σ s1 := c1.lay ndx
  have nx2 : (upd H1 dx (.own x)) x = none := by rw [upd_ne (Ne.symm nex)]; exact nx
  have c3 := c2.addO (p := x) (o := .ins C dx []) (kd := .ins C []) (vs := []) (es := []) nx2 ⟨rfl, dx, upd_same⟩ .nil
  have hx : (as1 ++ [x])[s1.ce.length]? = some x := by rw [← c1.len, List.getElem?_append_right (Nat.le_refl _)]; simp
  have x3 : Ext as1 (as1 ++ [x]) G1 G1 := ⟨pre_snoc, Same.refl _⟩
  have ves3 : VEs X.K G1 (as1 ++ [x]) (.ref x :: vs) (.r s1.ce.length :: es1) := .cons ⟨x, hx, rfl⟩ (x3.ves ves)
  rw [q1] at ves3
  have hb : ∀ j ∈ js, j < (as1 ++ [x]).length := fun j hj => by rw [c3.len]; exact g.2.1 j hj
  refine ⟨subA (as1 ++ [x]) js, ce, es0, G1, c3.sub, c3.goes g, ves_in hb q2 ves3, mono ce es0 _ _ (fun e ce' ⟨he, hr⟩ v as' G' H' w1 w2 w3 w4 w5 w6 ow ve => ?_) hR⟩
  subst he
  cases ve
  have c4 := c3.ret g w1 w2 w3 w4 w5 w6 ow
  have x4 : Ext as1 (as1 ++ [x] ++ List.drop js.length as') G1 G' := x3.trans ⟨⟨_, rfl⟩, w4⟩
  exact ⟨rfl, kk (.ref x) _ G' H' (.r s1.ce.length) _ c4 x4 ⟨x, pre_get ⟨_, rfl⟩ hx, rfl⟩ hr⟩
theorem je_make {R : RS} (cb : CbM X x k C R) (bx : Bx X B) (hB : k + 1 ≤ B) (h : JA X F (a :: es) s fun vs s1 => MkQ X C R s1 vs Φ) (hdb : (x == ("__debug__" : Str)) = false := by decide)
    (he : starEach (a :: es) X.env = (false, eval a X.env) :: starEach es X.env := by rfl) (hpl : (backTo pos (starEach es X.env)).any (·.1) = false := by rfl) : JE X F (.Call (.Name x p) (a :: es) [] pos) s Φ := by
  obtain ⟨f, fd, ps, h2, h3, h4⟩ := cb.ex
  refine je_of (pe_make h2 h4 (bx.room.mono hB) cb.gl cb.mgC h3 .nil pass0 (pa_sem X _) hdb he hpl) fun as G H σ Q c kk => h as G H σ _ c fun vs as1 G1 H1 es1 s1 c1 x1 ves q y dy ny ndy ney => ?_
  exact make_go (f0 := f) (fd := fd) (ps := ps) cb.mono c1 ves q (fun v as' G' H' e' s' c' x' ve q' => kk v as' G' H' e' s' c' (x1.trans x') ve q') y dy ny ndy ney
theorem je_make0 {R : RS} (cb : CbM X x k C R) (bx : Bx X B) (hB : k + 1 ≤ B) (h : MkQ X C R s [] Φ) (hdb : (x == ("__debug__" : Str)) = false := by decide) : JE X F (.Call (.Name x p) [] [] pos) s Φ := by
  obtain ⟨f, fd, ps, h2, h3, h4⟩ := cb.ex
  refine je_of (pe_make0 h2 h4 (bx.room.mono hB) cb.gl cb.mgC h3 .nil pass0 hdb) fun as G H σ Q c kk y dy ny ndy ney => ?_
  exact make_go (f0 := f) (fd := fd) (ps := ps) cb.mono c .nil h (fun v as' G' H' e' s' c' x' ve q' => kk v as' G' H' e' s' c' x' ve q') y dy ny ndy ney
end
end DL
namespace DL
open PySem PySem.Spec PyProof.Rows L2
variable {X : Cx} {F : Fr} {s : S}
/-! ### owned things seen as data, cells in cells -/
def vwL (f : E → Option D) : List E → Option (List D)
  | [] => some []
  | e :: es => match f e, vwL f es with
    | some d, some ds => some (d :: ds)
    | _, _ => none
def S.vw (s : S) : Nat → E → Option D
  | _, .d x => some x
  | 0, .r _ => none
  | n + 1, .r k => match nth s.ce k with
    | some (.nd kd es) => (vwL (s.vw n) es).map (.nd kd)
    | _ => none
theorem vwL_nil {f : E → Option D} : vwL f [] = some [] := rfl
theorem vwL_cons {f : E → Option D} {e : E} {es : List E} {d : D} {ds : List D} (h1 : f e = some d) (h2 : vwL f es = some ds) : vwL f (e :: es) = some (d :: ds) := by unfold vwL; rw [h1, h2]
theorem vw_d {n : Nat} {x : D} : s.vw n (.d x) = some x := by cases n <;> rfl
theorem vw_r {n k : Nat} {kd : Kd} {es : List E} {ds : List D} (h1 : nth s.ce k = some (.nd kd es)) (h2 : vwL (s.vw n) es = some ds) : s.vw (n + 1) (.r k) = some (.nd kd ds) := by
  show (match nth s.ce k with
    | some (.nd kd es) => (vwL (s.vw n) es).map (D.nd kd)
    | _ => none) = _
  rw [h1]
  show (vwL (s.vw n) es).map _ = _
  rw [h2]; rfl
theorem vwL_ds {n : Nat} : ∀ (ds : List D), vwL (s.vw n) (ds.map .d) = some ds
  | [] => rfl
  | d :: ds => vwL_cons vw_d (vwL_ds ds)
theorem Cz.vws {as : List Addr} {G H : Hp} {σ : L2.St} (c : Cz X F as G H σ s) : ∀ (n : Nat),
    (∀ {v : V} {e : E} {d : D}, VE X.K G as v e → s.vw n e = some d → Rep X.K (lend s as G H) v d) ∧
    (∀ {vs : List V} {es : List E} {ds : List D}, VEs X.K G as vs es → vwL (s.vw n) es = some ds → Reps X.K (lend s as G H) vs ds) := fun n => by
  have list : ∀ {n : Nat}, (∀ {v : V} {e : E} {d : D}, VE X.K G as v e → s.vw n e = some d → Rep X.K (lend s as G H) v d) → ∀ {vs : List V} {es : List E} {ds : List D}, VEs X.K G as vs es → vwL (s.vw n) es = some ds → Reps X.K (lend s as G H) vs ds := fun {n} one {vs es ds} h => by
    induction h generalizing ds with
    | nil => intro q; cases q; exact .nil
    | @cons v e vs es r t ih =>
      intro q
      unfold vwL at q
      cases q1 : s.vw n e with
      | none => rw [q1] at q; simp at q
      | some d =>
        cases q2 : vwL (s.vw n) es with
        | none => rw [q1, q2] at q; simp at q
        | some ds' =>
          rw [q1, q2] at q
          simp at q
          subst q
          exact .cons (one r q1) (ih q2)
  have one : ∀ n, ∀ {v : V} {e : E} {d : D}, VE X.K G as v e → s.vw n e = some d → Rep X.K (lend s as G H) v d := fun n => by
    induction n with
    | zero =>
      intro v e d ve q
      cases e with
      | d x => cases q; exact Rep.mono lend_sub ve
      | r k => cases q
    | succ n ih =>
      intro v e d ve q
      cases e with
      | d x => cases q; exact Rep.mono lend_sub ve
      | r k =>
        obtain ⟨a, h1, rfl⟩ := ve
        have q : (match nth s.ce k with
          | some (.nd kd es) => (vwL (s.vw n) es).map (D.nd kd)
          | _ => none) = some d := q
        rw [nth_eq] at q
        cases hc : s.ce[k]? with
        | none => rw [hc] at q; cases q
        | some cl =>
          rw [hc] at q
          cases cl with
          | gone => cases q
          | nd kd es =>
            cases q2 : vwL (s.vw n) es with
            | none => simp [q2] at q
            | some ds =>
              simp [q2] at q
              subst q
              obtain ⟨b, vs, g1, g2, g3⟩ := c.cells k _ _ hc
              rw [h1] at g1
              cases g1
              have la : ∀ o, H a = some o → lend s as G H a = some o := fun o q => by
                rw [lend_yes (c.own k a _ _ h1 hc) ⟨k, _, _, h1, hc⟩]
                exact q
              have : CellAt (lend s as G H) a vs kd := g2.keep la
              exact .nd this.node (list (fun ve q => ih ve q) g3 q2)
  exact ⟨one n, list (one n)⟩
/-- behind a call that only read -/
theorem Cz.lent {as1 : List Addr} {G1 H1 G' H' : Hp} {σ : L2.St} {s1 : S} {v : V} {r : Rt} {Φ : E → S → Prop} (c1 : Cz X F as1 G1 H1 σ s1) (q1 : Same H1 H') (q2 : Same (lend s1 as1 G1 H1) G') (q3 : Same G' H') (q4 : ∀ b, lend s1 as1 G1 H1 b = none → H1 b ≠ none → G' b = none)
    (q5 : RtAt X.K G' H' H1 v r) (hi : r.imm = true) (hr : RtΦ Φ s1 r) : ∃ as' G2 e s', Cz X F as' G2 H' σ s' ∧ Ext as1 as' G1 G2 ∧ VE X.K G2 as' v e ∧ Φ e s' := by
  obtain ⟨G2, hG2, hG3⟩ : ∃ G2 : Hp, (∀ b, Alive s1 as1 b → G2 b = none) ∧ ∀ b, ¬ Alive s1 as1 b → G2 b = G' b := by
    classical
    exact ⟨fun b => if Alive s1 as1 b then none else G' b, fun b h => if_pos h, fun b h => if_neg h⟩
  have ga : ∀ {b : Addr}, Alive s1 as1 b → G1 b = none := fun {b} ⟨k, kd, es, w1, w2⟩ => c1.own k b _ _ w1 w2
  have s1' : Same G1 G2 := fun b o q => by
    rw [hG3 b (fun z => by rw [ga z] at q; cases q)]
    exact q2 b o (lend_sub b o q)
  have s2' : Same G2 H' := fun b o q => by
    by_cases hb : Alive s1 as1 b
    · rw [hG2 b hb] at q; cases q
    · rw [hG3 b hb] at q; exact q3 b o q
  have s4' : ∀ b, G1 b = none → H1 b ≠ none → G2 b = none := fun b w1 w2 => by
    by_cases hb : Alive s1 as1 b
    · exact hG2 b hb
    · rw [hG3 b hb]
      exact q4 b (lend_no w1 hb) w2
  have c2 := c1.call q1 s1' s2' s4'
  have x2 : Ext as1 as1 G1 G2 := ⟨List.prefix_refl _, s1'⟩
  have tups : ∀ a vs, Rd G' a (.tup vs) → Rd G2 a (.tup vs) := fun b ws hb => by
    have nb : ¬ Alive s1 as1 b := fun z => by
      have w0 := ga z
      obtain ⟨j, kd, es, hj, hcl⟩ := z
      obtain ⟨b', us, g1, g2, g3⟩ := c1.cells j _ _ hcl
      rw [hj] at g1
      cases g1
      obtain ⟨o, ho⟩ := g2.some
      have hG' : G' b = some o := q2 b o (by rw [lend_yes w0 ⟨j, kd, es, hj, hcl⟩]; exact ho)
      have g2' : CellAt G' b us kd := g2.keep fun u q => by rw [ho] at q; cases q; exact hG'
      rcases hb with hb | ⟨oo, hb⟩
      · cases kd with
        | tup => exact g2'
        | lst => have : G' b = some (.lst us) := g2'; rw [hb] at this; cases this
        | dct ks => obtain ⟨_, _, _, this⟩ := g2'; rw [hb] at this; cases this
        | ins C fs => obtain ⟨_, _, this⟩ := g2'; rw [hb] at this; cases this
        | exc _ _ _ _ => exact g2'
      · cases kd with
        | tup => exact g2'
        | lst => have : G' b = some (.lst us) := g2'; rw [hb] at this; cases this
        | dct ks => obtain ⟨_, _, _, this⟩ := g2'; rw [hb] at this; cases this
        | ins C fs => obtain ⟨_, _, this⟩ := g2'; rw [hb] at this; cases this
        | exc _ _ _ _ => exact g2'
    rcases hb with hb | ⟨oo, hb⟩
    · exact .inl (by rw [hG3 b nb]; exact hb)
    · exact .inr ⟨oo, by rw [hG3 b nb]; exact hb⟩
  cases r with
  | dat y => exact ⟨as1, G2, .d y, s1, c2, x2, imm_keep tups _ _ q5 hi, hr⟩
  | new kd ds' =>
    obtain ⟨b, ws, rfl, w1, w2, w3, w4⟩ := q5
    have gb : G2 b = none := by
      by_cases hb : Alive s1 as1 b
      · exact hG2 b hb
      · rw [hG3 b hb]; exact w2
    have c3 := c2.grow (kd := kd) (es := ds'.map .d) gb (c1.notin w1) (c1.h0none w1) w3 (VEs.ofReps (imm_keeps tups _ _ w4 hi))
    exact ⟨_, G2, .r s1.ce.length, _, c3, x2.trans ⟨pre_snoc, Same.refl _⟩, ⟨b, by rw [← c1.len, List.getElem?_append_right (Nat.le_refl _)]; simp, rfl⟩, hr⟩
/-- behind a call of frozen things -/
theorem Cz.frzd {as1 : List Addr} {G1 H1 G' H' : Hp} {σ : L2.St} {s1 : S} {v : V} {r : Rt} {Φ : E → S → Prop} (c1 : Cz X F as1 G1 H1 σ s1) (q1 : Same H1 H') (q2 : Same G1 G') (q3 : Same G' H') (q4 : ∀ b, G1 b = none → H1 b ≠ none → G' b = none)
    (q5 : RtAt X.K G' H' H1 v r) (hr : RtΦ Φ s1 r) : ∃ as' G2 e s', Cz X F as' G2 H' σ s' ∧ Ext as1 as' G1 G2 ∧ VE X.K G2 as' v e ∧ Φ e s' := by
  have c2 := c1.call q1 q2 q3 q4
  have x2 : Ext as1 as1 G1 G' := ⟨List.prefix_refl _, q2⟩
  cases r with
  | dat y => exact ⟨as1, G', .d y, s1, c2, x2, q5, hr⟩
  | new kd ds' =>
    obtain ⟨b, ws, rfl, w1, w2, w3, w4⟩ := q5
    have c3 := c2.grow (kd := kd) (es := ds'.map .d) w2 (c1.notin w1) (c1.h0none w1) w3 (VEs.ofReps w4)
    exact ⟨_, G', .r s1.ce.length, _, c3, x2.trans ⟨pre_snoc, Same.refl _⟩, ⟨b, by rw [← c1.len, List.getElem?_append_right (Nat.le_refl _)]; simp, rfl⟩, hr⟩
section
variable {e a b c o value : Expr} {es rest : List Expr} {Φ : E → S → Prop} {pos pos' p apos : Pos} {x m f : Str} {k B : Nat} {C : Addr} {FS : List Str}
/-- f(..), what is owned only read, cells in cells -/
theorem je_callV {R : RP} (cb : CbP X x k R) (bx : Bx X B) (hB : k ≤ B)
    (h : JA X F (a :: es) s fun vs s1 => ∃ n ds, vwL (s1.vw n) vs = some ds ∧ R ds fun r => r.imm = true ∧ RtΦ Φ s1 r) (hdb : (x == ("__debug__" : Str)) = false := by decide) (he : starEach (a :: es) X.env = (false, eval a X.env) :: starEach es X.env := by rfl)
    (hpl : (backTo pos (starEach es X.env)).any (·.1) = false := by rfl) : JE X F (.Call (.Name x p) (a :: es) [] pos) s Φ := by
  obtain ⟨f, fd, ps, h1, h2, h3, h4⟩ := cb.ex
  refine je_of (pe_call h4 (bx.room.mono hB) cb.gl h1 h2 h3 .nil pass0 (pa_sem X _) hdb he hpl) fun as G H σ Q c kk => h as G H σ _ c fun vs as1 G1 H1 es1 s1 c1 x1 ves ⟨n, ds, e1, hR⟩ => ?_
  rw [List.append_nil]
  refine ⟨lend s1 as1 G1 H1, ds, lend_in c1.sub, (c1.vws n).2 ves e1, cb.mono ds _ _ (fun r ⟨hi, hr⟩ v G' H' q1 q2 q3 q4 q5 => ?_) hR⟩
  obtain ⟨as', G2, e, s', w1, w2, w3, w4⟩ := c1.lent q1 q2 q3 q4 q5 hi hr
  exact kk v as' G2 H' e s' w1 (x1.trans w2) w3 w4
/-! ### methods -/
structure CaH (P : Program) (w : World) (K : PySem.W.Frag) (mg : Str → Option Value) (base : Heap) (C : Addr) (m : Str) (k : Nat) (sp : Sp) : Prop where
  cl : Cls K C
  ex : ∃ f fd ps, Meth K C m f ∧ Binds K fd ps [] ∧ FnOk P w K mg base CX0 k f fd ps sp
structure CaHP (P : Program) (w : World) (K : PySem.W.Frag) (mg : Str → Option Value) (base : Heap) (C : Addr) (m : Str) (k : Nat) (R : RP) : Prop where
  mono : MonoP R
  h : CaH P w K mg base C m k (spP K R)
structure CaHS (P : Program) (w : World) (K : PySem.W.Frag) (mg : Str → Option Value) (base : Heap) (C : Addr) (m : Str) (k : Nat) (R : RS) : Prop where
  mono : MonoS R
  h : CaH P w K mg base C m k (spS K R)
structure CbHP (X : Cx) (C : Addr) (m : Str) (k : Nat) (R : RP) : Prop where
  mono : MonoP R
  cl : Cls X.K C
  ex : ∃ f fd ps, Meth X.K C m f ∧ Binds X.K fd ps [] ∧ FnOk X.prog X.w X.K X.mg X.base CX0 k f fd ps (spP X.K R)
structure CbHS (X : Cx) (C : Addr) (m : Str) (k : Nat) (R : RS) : Prop where
  mono : MonoS R
  cl : Cls X.K C
  ex : ∃ f fd ps, Meth X.K C m f ∧ Binds X.K fd ps [] ∧ FnOk X.prog X.w X.K X.mg X.base CX0 k f fd ps (spS X.K R)
theorem CaHP.at {X : Cx} {P : Program} {w : World} {K : PySem.W.Frag} {mg : Str → Option Value} {base : Heap} {N : List Str} {sc : Scope} {k j : Nat} {C : Addr} {m : Str} {R : RP} (c : CaHP P w K mg base C m j R) (h : XIs X P w K mg base N sc k) : CbHP X C m j R := by
  obtain ⟨e1, e2, e3, e4, e5, _⟩ := id h
  subst e1 e2 e3 e4 e5
  exact ⟨c.mono, c.h.cl, c.h.ex⟩
theorem CaHS.at {X : Cx} {P : Program} {w : World} {K : PySem.W.Frag} {mg : Str → Option Value} {base : Heap} {N : List Str} {sc : Scope} {k j : Nat} {C : Addr} {m : Str} {R : RS} (c : CaHS P w K mg base C m j R) (h : XIs X P w K mg base N sc k) : CbHS X C m j R := by
  obtain ⟨e1, e2, e3, e4, e5, _⟩ := id h
  subst e1 e2 e3 e4 e5
  exact ⟨c.mono, c.h.cl, c.h.ex⟩
def MthEv (X : Cx) (o : Expr) (m : Str) (es : List Expr) (pos apos : Pos) (pl : Sem Bool) : Prop := eval (.Call (.Attribute o m apos) es [] pos) X.env = (do
  let ov ← eval o X.env
  standAt apos.atName
  let (f, first) ← holding [ov] (getMethod ov m pl)
  callWith pos f first (backTo pos (starEach es X.env)) (backToKw pos (keywordEach [] X.env)))
/-- o.m(..), what is owned only read -/
theorem je_methP {R : RP} {pl : Sem Bool} (cb : CbHP X C m k R) (bx : Bx X B) (hB : k ≤ B)
    (h : JE X F o s fun eo s1 => ∃ fs es', s1.node eo = some (.ins C fs, es') ∧ ixF fs m = none ∧ JA X F (a :: es) s1 fun vs s2 => ∃ n ds, vwL (s2.vw n) (eo :: vs) = some ds ∧ R ds fun r => r.imm = true ∧ RtΦ Φ s2 r)
    (hev : MthEv X o m (a :: es) pos apos pl) (he : starEach (a :: es) X.env = (false, eval a X.env) :: starEach es X.env := by rfl) (hpl : (backTo pos (starEach es X.env)).any (·.1) = false := by rfl) : JE X F (.Call (.Attribute o m apos) (a :: es) [] pos) s Φ := by
  obtain ⟨f, fd, ps, h2, h3, h4⟩ := cb.ex
  refine je_of (pe_meth (pe_sem X o) cb.cl h2 h4 (bx.room.mono hB) h3 .nil pass0 (pa_sem X _) he hpl hev) fun as G H σ Q c kk => h as G H σ _ c fun v1 as1 G1 H1 e1 s1 c1 x1 ve1 ⟨fs, es', hn, hm, h1⟩ => ?_
  obtain ⟨ad, ws, rfl, n, we⟩ := c1.node ve1 hn
  obtain ⟨hl, dx, hH⟩ := n
  refine ⟨ad, dx, _, rfl, hH, lk_no hm, h1 as1 G1 H1 σ _ c1 fun vs as2 G2 H2 es2 s2 c2 x2 ves ⟨n, ds, q, hR⟩ => ?_⟩
  rw [List.append_nil]
  refine ⟨lend s2 as2 G2 H2, ds, lend_in c2.sub, (c2.vws n).2 (.cons (x2.ve ve1) ves) q, cb.mono ds _ _ (fun r ⟨hi, hr⟩ v G' H' q1 q2 q3 q4 q5 => ?_) hR⟩
  obtain ⟨as', G3, e, s', w1, w2, w3, w4⟩ := c2.lent q1 q2 q3 q4 q5 hi hr
  exact kk v as' G3 H' e s' w1 ((x1.trans x2).trans w2) w3 w4
theorem je_methP0 {R : RP} {pl : Sem Bool} (cb : CbHP X C m k R) (bx : Bx X B) (hB : k ≤ B)
    (h : JE X F o s fun eo s1 => ∃ fs es', s1.node eo = some (.ins C fs, es') ∧ ixF fs m = none ∧ ∃ n ds, vwL (s1.vw n) [eo] = some ds ∧ R ds fun r => r.imm = true ∧ RtΦ Φ s1 r)
    (hev : MthEv X o m [] pos apos pl) : JE X F (.Call (.Attribute o m apos) [] [] pos) s Φ := by
  obtain ⟨f, fd, ps, h2, h3, h4⟩ := cb.ex
  refine je_of (pe_meth0 (pe_sem X o) cb.cl h2 h4 (bx.room.mono hB) h3 .nil pass0 hev) fun as G H σ Q c kk => h as G H σ _ c fun v1 as1 G1 H1 e1 s1 c1 x1 ve1 ⟨fs, es', hn, hm, n, ds, q, hR⟩ => ?_
  obtain ⟨ad, ws, rfl, nn, we⟩ := c1.node ve1 hn
  obtain ⟨hl, dx, hH⟩ := nn
  refine ⟨ad, dx, _, rfl, hH, lk_no hm, ?_⟩
  refine ⟨lend s1 as1 G1 H1, ds, lend_in c1.sub, (c1.vws n).2 (.cons ve1 .nil) q, cb.mono ds _ _ (fun r ⟨hi, hr⟩ v G' H' q1 q2 q3 q4 q5 => ?_) hR⟩
  obtain ⟨as', G3, e, s', w1, w2, w3, w4⟩ := c1.lent q1 q2 q3 q4 q5 hi hr
  exact kk v as' G3 H' e s' w1 (x1.trans w2) w3 w4
/-- o.m(..), all frozen -/
theorem je_methD {R : RP} {pl : Sem Bool} (cb : CbHP X C m k R) (bx : Bx X B) (hB : k ≤ B)
    (h : JE X F o s fun eo s1 => ∃ fs es', s1.node eo = some (.ins C fs, es') ∧ ixF fs m = none ∧ JA X F (a :: es) s1 fun vs s2 => ∃ ds, dsOf (eo :: vs) = some ds ∧ R ds fun r => RtΦ Φ s2 r)
    (hev : MthEv X o m (a :: es) pos apos pl) (he : starEach (a :: es) X.env = (false, eval a X.env) :: starEach es X.env := by rfl) (hpl : (backTo pos (starEach es X.env)).any (·.1) = false := by rfl) : JE X F (.Call (.Attribute o m apos) (a :: es) [] pos) s Φ := by
  obtain ⟨f, fd, ps, h2, h3, h4⟩ := cb.ex
  refine je_of (pe_meth (pe_sem X o) cb.cl h2 h4 (bx.room.mono hB) h3 .nil pass0 (pa_sem X _) he hpl hev) fun as G H σ Q c kk => h as G H σ _ c fun v1 as1 G1 H1 e1 s1 c1 x1 ve1 ⟨fs, es', hn, hm, h1⟩ => ?_
  obtain ⟨ad, ws, rfl, n, we⟩ := c1.node ve1 hn
  obtain ⟨hl, dx, hH⟩ := n
  refine ⟨ad, dx, _, rfl, hH, lk_no hm, h1 as1 G1 H1 σ _ c1 fun vs as2 G2 H2 es2 s2 c2 x2 ves ⟨ds, q, hR⟩ => ?_⟩
  rw [List.append_nil]
  have vv : VEs X.K G2 as2 (.ref ad :: vs) (e1 :: es2) := .cons (x2.ve ve1) ves
  rw [dsOf_eq q] at vv
  refine ⟨G2, ds, c2.sub, vv.reps, cb.mono ds _ _ (fun r hr v G' H' q1 q2 q3 q4 q5 => ?_) hR⟩
  obtain ⟨as', G3, e, s', w1, w2, w3, w4⟩ := c2.frzd q1 q2 q3 q4 q5 hr
  exact kk v as' G3 H' e s' w1 ((x1.trans x2).trans w2) w3 w4
theorem je_methD0 {R : RP} {pl : Sem Bool} (cb : CbHP X C m k R) (bx : Bx X B) (hB : k ≤ B)
    (h : JE X F o s fun eo s1 => ∃ fs es', s1.node eo = some (.ins C fs, es') ∧ ixF fs m = none ∧ ∃ ds, dsOf [eo] = some ds ∧ R ds fun r => RtΦ Φ s1 r)
    (hev : MthEv X o m [] pos apos pl) : JE X F (.Call (.Attribute o m apos) [] [] pos) s Φ := by
  obtain ⟨f, fd, ps, h2, h3, h4⟩ := cb.ex
  refine je_of (pe_meth0 (pe_sem X o) cb.cl h2 h4 (bx.room.mono hB) h3 .nil pass0 hev) fun as G H σ Q c kk => h as G H σ _ c fun v1 as1 G1 H1 e1 s1 c1 x1 ve1 ⟨fs, es', hn, hm, ds, q, hR⟩ => ?_
  obtain ⟨ad, ws, rfl, n, we⟩ := c1.node ve1 hn
  obtain ⟨hl, dx, hH⟩ := n
  refine ⟨ad, dx, _, rfl, hH, lk_no hm, ?_⟩
  have vv : VEs X.K G1 as1 [.ref ad] [e1] := .cons ve1 .nil
  rw [dsOf_eq q] at vv
  refine ⟨G1, ds, c1.sub, vv.reps, cb.mono ds _ _ (fun r hr v G' H' q1 q2 q3 q4 q5 => ?_) hR⟩
  obtain ⟨as', G3, e, s', w1, w2, w3, w4⟩ := c1.frzd q1 q2 q3 q4 q5 hr
  exact kk v as' G3 H' e s' w1 (x1.trans w2) w3 w4
/-- o.m(..), cells that go along -/
theorem je_methS {R : RS} {pl : Sem Bool} (cb : CbHS X C m k R) (bx : Bx X B) (hB : k ≤ B)
    (h : JE X F o s fun eo s1 => ∃ fs es', s1.node eo = some (.ins C fs, es') ∧ ixF fs m = none ∧ JA X F (a :: es) s1 fun vs s2 => ∃ js ce es0, Goes s2 js ce ∧ (eo :: vs) = es0.map (E.ren (jsF js s2.ce.length)) ∧ es0.all (E.lt js.length) = true ∧ R ce es0 fun e ce' => Φ (e.ren (jsF js s2.ce.length)) (s2.back js ce'))
    (hev : MthEv X o m (a :: es) pos apos pl) (he : starEach (a :: es) X.env = (false, eval a X.env) :: starEach es X.env := by rfl) (hpl : (backTo pos (starEach es X.env)).any (·.1) = false := by rfl) : JE X F (.Call (.Attribute o m apos) (a :: es) [] pos) s Φ := by
  obtain ⟨f, fd, ps, h2, h3, h4⟩ := cb.ex
  refine je_of (pe_meth (pe_sem X o) cb.cl h2 h4 (bx.room.mono hB) h3 .nil pass0 (pa_sem X _) he hpl hev) fun as G H σ Q c kk => h as G H σ _ c fun v1 as1 G1 H1 e1 s1 c1 x1 ve1 ⟨fs, es', hn, hm, h1⟩ => ?_
  obtain ⟨ad, ws, rfl, n, we⟩ := c1.node ve1 hn
  obtain ⟨hl, dx, hH⟩ := n
  refine ⟨ad, dx, _, rfl, hH, lk_no hm, h1 as1 G1 H1 σ _ c1 fun vs as2 G2 H2 es2 s2 c2 x2 ves ⟨js, ce, es0, g, q1, q2, hR⟩ => ?_⟩
  rw [List.append_nil]
  have vv : VEs X.K G2 as2 (.ref ad :: vs) (e1 :: es2) := .cons (x2.ve ve1) ves
  rw [q1] at vv
  have hb : ∀ j ∈ js, j < as2.length := fun j hj => by rw [c2.len]; exact g.2.1 j hj
  refine ⟨subA as2 js, ce, es0, G2, c2.sub, c2.goes g, ves_in hb q2 vv, cb.mono ce es0 _ _ (fun e ce' hr v as' G' H' w1 w2 w3 w4 w5 w6 ow ve => ?_) hR⟩
  have c3 := c2.ret g w1 w2 w3 w4 w5 w6 ow
  have ve2 := ve_out hb w1 ve
  rw [c2.len] at ve2
  exact kk v _ G' H' _ _ c3 ((x1.trans x2).trans ⟨⟨_, rfl⟩, w4⟩) ve2 hr
end
end DL
namespace DL
open PySem PySem.Spec PyProof.Rows L2
variable {X : Cx} {F : Fr} {s : S}
section
variable {e a b c tg iter elt : Expr} {es rest elts : List Expr} {Φ : E → S → Prop} {Ψ : Bool → S → Prop} {pos p p2 tpos : Pos} {x : Str} {k B kk : Nat} {Θ : Nat → (Nat → E → Prop) → S → Prop}
/-- an owned or frozen list as a test -/
theorem jt_lst (h : JE X F e s fun e1 s1 => ∃ es, s1.node e1 = some (.lst, es) ∧ Ψ (!es.isEmpty) s1) (he : ∀ whole, isTrue e X.env whole = (do let v ← whole; standAt e.pos; holding [v] (truthy v)) := by intro _; rfl) : JT X F e s Ψ :=
  fun as G H σ Q c k => PT.sem (pt_truth (pe_sem X e) he) (h as G H σ _ c fun v as1 G1 H1 e1 s1 c1 x1 ve ⟨es, hn, q⟩ => by
    obtain ⟨ad, ws, rfl, n, we⟩ := c1.node ve hn
    have n : SqL X.K H1 ad ws := n
    refine ⟨_, .inl ⟨ws, n, rfl⟩, ?_⟩
    have hl := Paired.length we
    have e : (!ws.isEmpty) = (!es.isEmpty) := by
      cases ws with
      | nil => cases es with
        | nil => rfl
        | cons => simp at hl
      | cons => cases es with
        | nil => simp at hl
        | cons => rfl
    rw [e]
    exact k _ as1 G1 H1 s1 c1 x1 q)
/-- sorted of a dict's whole numbers -/
theorem je_sortedDI (bx : Bx X B) (g : GlB X "sorted") (h : JE X F a s fun e s1 => ∃ (ks : List Int) (es : List E), s1.node e = some (.dct (ks.map Sum.inl), es) ∧ ks.length < 64 ∧ ∀ ys : List Int, ys.Perm ks → ys.Pairwise (· ≤ ·) → Φ (.d (.nd .lst (ys.map .int))) s1)
    (ns : NoStar a := by intro _ _; rfl) : JE X F (.Call (.Name "sorted" p) [a] [] pos) s Φ :=
  je_of (pe_callB (call_sortedDI bx.calm) g.gl g.mg PyProof.Rows.boot_sorted (pa_cons (pe_sem X a) pa_nil (ns _ _)) (he := ns _ _)) fun as G H σ Q c k => h as G H σ _ c fun v as1 G1 H1 e1 s1 c1 x1 ve ⟨ks, es, h1, h2, h3⟩ => by
    obtain ⟨d, vs, rfl, ⟨n1, n2, od, n3⟩, ves⟩ := c1.node ve h1
    refine ⟨d, _, ks, rfl, .inr ⟨od, n3⟩, by rw [List.map_fst_zip (by omega)], h2, fun ys q hy hs hq => ?_⟩
    have sg : Same G1 (upd G1 q (.lst (ys.map V.int))) := same_new (c1.gnone hq)
    exact k _ as1 _ _ (.d (.nd .lst (ys.map .int))) s1 (c1.addG hq) (x1.trans ⟨List.prefix_refl _, sg⟩) (.nd (SqL.of upd_same) (reps_ints ys)) (h3 ys hy hs)
/-- {x: True}, x a name that holds a whole number; owned -/
theorem jn_dict1 {Θ : Kd → List E → S → Prop} {i j : Nat} {n : Int} {bb : Bool} {pk pv : Pos} (nm : NmR X i x) (hs : nth s.sl i = some (some (.d (.int n)))) (h : Θ (.dct [.inl n]) [.d (.bl bb)] s) : JN X F (.Dict [some (.Name x pk)] [.Constant (.bool bb) j pv] pos) s Θ := fun as G H σ Q c k =>
  PE.sem (pe_disp (pps_cons (pe_var nm.nm nm.vis nm.dbg nm.cdt) pe_bl pps_nil) (by rfl) (by rfl) (fun z => by cases z) (by show 1 ≤ 15; decide)) fun q hq => by
    rw [nth_eq] at hs
    obtain ⟨v, h1, h2⟩ := c.slots i _ hs
    cases h2
    refine ⟨.int n, h1, ?_⟩
    refine ⟨upd_same, [(.inl n, .bl bb)], rfl, by show 1 ≤ 15; decide, ?_⟩
    rw [upd_upd]
    exact k q [.bl bb] as G H (.dct [.inl n]) [.d (.bl bb)] s c (Ext.refl _ _) hq (fun ks z => by cases z; exact ⟨rfl, by simp⟩) (.cons (Rep.bl _) .nil) h
/-- reversed(xs), xs frozen -/
def itB (ds : List D) : Nat → E → Prop := fun i e => ∃ d, ds[ds.length - 1 - i]? = some d ∧ e = .d d
theorem ji_rev (g : GlB X "reversed") (h : JE X F a s fun e s1 => ∃ ds, e = .d (.nd .lst ds) ∧ Θ ds.length (itB ds) s1) (ns : NoStar a := by intro _ _; rfl) : JI X F tg (.Call (.Name "reversed" p) [a] [] pos) s Θ := fun as G H σ R c k =>
  PI.sem (pi_reversed g.gl g.mg (pa_cons (pe_sem X a) pa_nil (ns _ _)) (ns _ _)) (h as G H σ _ c fun v as1 G1 H1 e1 s1 c1 x1 ve ⟨ds, e2, q⟩ => by
    subst e2
    cases ve with
    | @nd l vs _ _ n r =>
      have n : SqL X.K G1 l vs := n
      have hl : vs.length = ds.length := r.length
      refine ⟨l, vs, rfl, (show NodeAt X.K G1 l vs .lst from n).mono c1.sub, k (Itv X.K l vs.length) as1 G1 H1 s1 ds.length (itB ds) c1 x1 ?_ q⟩
      have at_ : ∀ {as' : List Addr} {G' H' : Hp} {σ' : L2.St} {s' : S}, Cz X F as' G' H' σ' s' → Same G1 G' → SqL X.K H' l vs := fun c' x => ((show NodeAt X.K G1 l vs .lst from n).mono x).mono c'.sub
      refine ⟨fun as' G' H' σ' s' c' x => by show vs.length ≤ ds.length; omega, fun i as' G' H' σ' s' hi c' x => ⟨by omega, vs, vs[vs.length - 1 - i]'(by omega), at_ c' x, List.getElem?_eq_getElem _⟩, fun i as' G' H' σ' s' y H2 hi c' x q => ?_, fun i as' G' H' σ' s' y H2 hi c' x q => (by obtain ⟨rfl, _⟩ := q; exact Same.refl _)⟩
      obtain ⟨rfl, q⟩ := q
      obtain ⟨d, h1, h2⟩ := r.get' (q vs (at_ c' x))
      exact ⟨G', .d d, c', ⟨Same.refl _, fun _ _ h => h⟩, Rep.mono x h2, d, by rw [← hl]; exact h1, rfl⟩)
/-- for i, x in enumerate(xs), xs frozen -/
def itE (ds : List D) : Nat → E → Prop := fun i e => ∃ d, ds[i]? = some d ∧ e = .d (.nd .tup [.int i, d])
theorem ji_enum (g : GlB X "enumerate") (h : JE X F a s fun e s1 => ∃ ds, e = .d (.nd .lst ds) ∧ Θ ds.length (itE ds) s1) (ns : NoStar a := by intro _ _; rfl) : JI X F (.Tuple elts kk tpos) (.Call (.Name "enumerate" p) [a] [] pos) s Θ := fun as G H σ R c k =>
  PI.sem (pi_enum g.gl g.mg (pa_cons (pe_sem X a) pa_nil (ns _ _)) (ns _ _)) (h as G H σ _ c fun v as1 G1 H1 e1 s1 c1 x1 ve ⟨ds, e2, q⟩ => by
    subst e2
    cases ve with
    | @nd l vs _ _ n r =>
      have n : SqL X.K G1 l vs := n
      have hl : vs.length = ds.length := r.length
      refine ⟨l, vs, rfl, (show NodeAt X.K G1 l vs .lst from n).mono c1.sub, k (Ite X.K l) as1 G1 H1 s1 ds.length (itE ds) c1 x1 ?_ q⟩
      have at_ : ∀ {as' : List Addr} {G' H' : Hp} {σ' : L2.St} {s' : S}, Cz X F as' G' H' σ' s' → Same G1 G' → SqL X.K H' l vs := fun c' x => ((show NodeAt X.K G1 l vs .lst from n).mono x).mono c'.sub
      refine ⟨fun as' G' H' σ' s' c' x => ⟨vs, at_ c' x, by omega⟩, fun i as' G' H' σ' s' hi c' x => ⟨vs, vs[i]'(by omega), at_ c' x, List.getElem?_eq_getElem _⟩, fun i as' G' H' σ' s' y H2 hi c' x q => ?_, fun i as' G' H' σ' s' y H2 hi c' x q => ?_⟩
      · obtain ⟨T, u, rfl, hT, rfl, g1⟩ := q
        obtain ⟨d, e1, e2⟩ := r.get' (g1 vs (at_ c' x))
        have sg : Same G' (upd G' T (.tup [.int i, u])) := same_new (c'.gnone hT)
        refine ⟨upd G' T (.tup [.int i, u]), .d (.nd .tup [.int i, d]), c'.addG hT, ⟨sg, fun b0 hb hg => ?_⟩, ?_, d, e1, rfl⟩
        · rw [upd_ne (fun z => hb (by rw [z]; exact hT))]; exact hg
        · exact .nd (k := .tup) (SqT.of upd_same) (.cons (.int _) (.cons ((e2.mono x).mono sg) .nil))
      · obtain ⟨T, u, rfl, hT, rfl, g1⟩ := q
        exact same_new hT)
end
/-! ### comprehensions with a target of three names over a list of triples -/
def gP3 (K : PySem.W.Frag) (j1 j2 j3 : Nat) : TG := gTup K 3 (gCons (gName j1) (gCons (gName j2) (gCons (gName j3) gNil)))
def S.blk3 (s : S) (vs : List Nat) (acc : List E) (j1 : Nat) (v1 : E) (j2 : Nat) (v2 : E) (j3 : Nat) (v3 : E) : S := ((((s.wipe vs).push .lst acc).set j1 v1).set j2 v2).set j3 v3
section
variable {elt iter : Expr} {scope : Scope} {own : List (Str × Nat)} {pos p1 p2 p3 tp : Pos} {x1 x2 x3 : Str} {j1 j2 j3 kk B : Nat}
theorem pg_B3 (bx : Bx X B) (hn1 : ∀ Y, IsBlk X scope Y → NmW Y j1 x1) (hn2 : ∀ Y, IsBlk X scope Y → NmW Y j2 x2) (hn3 : ∀ Y, IsBlk X scope Y → NmW Y j3 x3) (st : Shared) (H : Hp) (C : Addr) (cl : List (Str × Addr)) (fp : List Addr) :
    PG (X.blk st H scope (compEnvC scope cl C X.env) fp) (.Tuple [.Name x1 p1, .Name x2 p2, .Name x3 p3] kk tp) (gP3 X.K j1 j2 j3) := by
  have m1 := hn1 _ ⟨st, H, C, cl, fp, rfl⟩
  have m2 := hn2 _ ⟨st, H, C, cl, fp, rfl⟩
  have m3 := hn3 _ ⟨st, H, C, cl, fp, rfl⟩
  exact pg_tup (n := 3) bx.calm (pgs_cons (pg_name m1.nd m1.nm m1.loc m1.hf) (pgs_cons (pg_name m2.nd m2.nm m2.loc m2.hf) (pgs_cons (pg_name m3.nd m3.nm m3.loc m3.hf) pgs_nil)))
/-- a frozen list of triples, the element pure -/
def Lc3 (X : Cx) (F : Fr) (tg iter elt : Expr) (scope : Scope) (vs : List Nat) (j1 j2 j3 : Nat) (s : S) (Θ : List D → Prop) : Prop :=
  JI X F tg iter s fun n it s1 => s1 = s ∧ n ≤ 16000000 ∧ ∃ (t : Nat → D × D × D) (f : Nat → D), (∀ i e, i < n → it i e → e = .d (.nd .tup [(t i).1, (t i).2.1, (t i).2.2])) ∧
    (∀ i acc, i < n → ∀ Y, IsBlk X scope Y → JE Y F elt (s.blk3 vs acc j1 (.d (t i).1) j2 (.d (t i).2.1) j3 (.d (t i).2.2)) fun y s3 => y = .d (f i) ∧ s3 = s.blk3 vs acc j1 (.d (t i).1) j2 (.d (t i).2.1) j3 (.d (t i).2.2)) ∧ Θ ((List.range n).map f)
theorem lc3_read {Θ : List D → Prop} (hj1 : j1 ∈ own.map (·.2)) (hj2 : j2 ∈ own.map (·.2)) (hj3 : j3 ∈ own.map (·.2)) {tg : Expr} (h : Lc3 X F tg iter elt scope (own.map (·.2)) j1 j2 j3 s Θ) :
    ∀ as G H σ (Q : VK), Cz X F as G H σ s → (∀ v as' G' H' ds, Cz X F as' G' H' σ (s.push .lst (ds.map .d)) → Ext as as' G G' → VE X.K G' as' v (.r s.ce.length) → Θ ds → Q v H') → tLc (semI X tg iter) (gP3 X.K j1 j2 j3) (ttB X scope []) (teB X scope elt) (own.map (·.2)) σ H Q := by
  refine fun as G H σ Q c k => h as G H σ _ c fun J as1 G1 H1 s1 n it c1 x1 okJ ⟨q1, q2, t, f, q3, q4, q5⟩ => ?_
  subst q1
  intro D hD
  have c1' := (c1.wipe (own.map (·.2))).addO (kd := .lst) (o := .lst []) (vs := []) (es := []) hD upd_same .nil
  have hk : s1.ce.length = as1.length := c1.len.symm
  refine ⟨fun i m H' => m = n - i ∧ i ≤ n ∧ ∃ as' G', Cz X F as' G' H' (wipe σ (own.map (·.2))) ((s1.wipe (own.map (·.2))).push .lst (((List.range i).map f).map .d)) ∧ as1 ++ [D] <+: as' ∧ Same G1 G', ⟨n, by simp, Nat.zero_le _, _, _, c1', List.prefix_refl _, Same.refl _⟩, ?_⟩
  rintro i m H' ⟨rfl, hi, as', G', c', pr, sg⟩
  have prD : as'[s1.ce.length]? = some D := pre_get pr (by rw [hk, List.getElem?_append_right (Nat.le_refl _)]; simp)
  by_cases hlt : i < n
  · refine .inr ⟨okJ.go i as' G' H' _ _ hlt c' sg, fun H2 => ∃ as' G', Cz X F as' G' H2 (wipe σ (own.map (·.2))) ((s1.wipe (own.map (·.2))).push .lst (((List.range (i + 1)).map f).map .d)) ∧ as1 ++ [D] <+: as' ∧ Same G1 G', fun H2 ⟨as2, G2, c2, p2, g2⟩ => ⟨n - (i + 1), by omega, rfl, hlt, as2, G2, c2, p2, g2⟩, fun v H2 y => ?_⟩
    obtain ⟨G2, e, c2, ⟨x2, _⟩, ve, hit⟩ := okJ.yld i as' G' H' _ _ v H2 hlt c' sg y
    have he := q3 i e hlt hit
    have q4 := q4 i (((List.range i).map f).map .d) hlt
    subst he
    generalize t i = ti at q4 ve
    obtain ⟨d1, d2, d3⟩ := ti
    dsimp only at q4 ve
    cases ve with
    | @nd a us _ _ nn rr =>
      cases rr with
      | @cons v1 _ _ _ r1 rr =>
        cases rr with
        | @cons v2 _ _ _ r2 rr =>
          cases rr with
          | @cons v3 _ _ _ r3 rr =>
            cases rr
            have c3 := ((c2.set (i := j1) (e := .d d1) r1).set (i := j2) (e := .d d2) r2).set (i := j3) (e := .d d3) r3
            have ws : wipe ((((wipe σ (own.map (·.2))).set j1 (some v1)).set j2 (some v2)).set j3 (some v3)) (own.map (·.2)) = wipe σ (own.map (·.2)) := wipe_same (by rw [List.length_set, List.length_set, List.length_set, wipe_length]) fun l hl => by
              rw [List.getElem?_set_ne (fun z => hl (by rw [← z]; exact hj3)), List.getElem?_set_ne (fun z => hl (by rw [← z]; exact hj2)), List.getElem?_set_ne (fun z => hl (by rw [← z]; exact hj1)), wipe_out' hl]
            refine ⟨a, [v1, v2, v3], rfl, (show NodeAt X.K G2 a [v1, v2, v3] .tup from nn).mono c2.sub, rfl, v1, [v2, v3], rfl, v2, [v3], rfl, v3, [], rfl, rfl, ws, ?_⟩
            refine fun Y hY pins st I => jts_run (F := F) (ifs := []) (Ψ := fun b s2 => b = true ∧ s2 = s1.blk3 (own.map (·.2)) (((List.range i).map f).map .d) j1 (.d d1) j2 (.d d2) j3 (.d d3)) ⟨rfl, rfl⟩ (cz_blk hY c3) (fun b as4 G4 H4 s4 c4 x4 ⟨qb, qs⟩ => ?_) pins st I
            subst qb qs
            simp only [if_true]
            refine fun Y2 hY2 => q4 Y2 hY2 as4 G4 H4 _ _ (cz_blk hY2 (cz_ublk hY c4)) fun y as5 G5 H5 y' s5 c5 x5 ve5 ⟨w1, w2⟩ => ?_
            subst w1 w2
            have c5 := cz_ublk hY2 c5
            rw [hY2.K] at ve5
            have p5 : as1 ++ [D] <+: as5 := (pr.trans x4.pre).trans x5.pre
            have prD5 : as5[s1.ce.length]? = some D := pre_get p5 (by rw [hk, List.getElem?_append_right (Nat.le_refl _)]; simp)
            have hce : (s1.blk3 (own.map (·.2)) (((List.range i).map f).map .d) j1 (.d d1) j2 (.d d2) j3 (.d d3)).ce[s1.ce.length]? = some (.nd .lst (((List.range i).map f).map .d)) := by
              show (s1.ce ++ [Cell.nd .lst _])[s1.ce.length]? = _
              rw [List.getElem?_append_right (Nat.le_refl _)]; simp
            obtain ⟨b, ws5, y1, y2, y3⟩ := c5.cells _ _ _ hce
            rw [prD5] at y1
            cases y1
            have y2' : H5 D = some (.lst ws5) := y2
            have hl := Paired.length y3
            refine ⟨ws5, y2', by rw [hl, List.length_map, List.length_map, List.length_range, sizeLine_eq]; omega, ?_⟩
            have c6 := (c5.put (kd := .lst) (es := ((List.range i).map f).map .d ++ [.d (f i)]) (o := .lst (ws5 ++ [y])) hce prD5 upd_same (y3.snoc ve5)).wipe (own.map (·.2))
            rw [ws] at c6
            have eS : ((s1.blk3 (own.map (·.2)) (((List.range i).map f).map .d) j1 (.d d1) j2 (.d d2) j3 (.d d3)).put s1.ce.length .lst (((List.range i).map f).map .d ++ [.d (f i)])).wipe (own.map (·.2)) = (s1.wipe (own.map (·.2))).push .lst (((List.range (i + 1)).map f).map .d) := by
              show ((((((s1.wipe (own.map (·.2))).push .lst (((List.range i).map f).map .d)).put s1.ce.length .lst (((List.range i).map f).map .d ++ [.d (f i)])).set j1 (.d d1)).set j2 (.d d2)).set j3 (.d d3)).wipe (own.map (·.2)) = _
              rw [set_wipe hj3, set_wipe hj2, set_wipe hj1, push_put, push_wipe, List.range_succ]
              simp
            rw [eS] at c6
            exact ⟨as5, G5, c6, p5, ((sg.trans x2).trans x4.sub).trans x5.sub⟩
  · have e : i = n := by omega
    subst e
    refine .inl ⟨okJ.stop as' G' H' _ _ c' sg, ?_⟩
    have x : Ext as1 as' G1 G' := ⟨pre_snoc.trans pr, sg⟩
    exact k _ as' G' H' _ (c1.back c' x) (x1.trans x) ⟨D, prD, rfl⟩ q5
/-- .. owned -/
theorem je_lc3 {Φ : E → S → Prop} (bx : Bx X B) (ok : BlkOk X.N X.env.scope scope own) (hj1 : j1 ∈ own.map (·.2)) (hj2 : j2 ∈ own.map (·.2)) (hj3 : j3 ∈ own.map (·.2)) (hn1 : ∀ Y, IsBlk X scope Y → NmW Y j1 x1) (hn2 : ∀ Y, IsBlk X scope Y → NmW Y j2 x2) (hn3 : ∀ Y, IsBlk X scope Y → NmW Y j3 x3)
    (h : Lc3 X F (.Tuple [.Name x1 p1, .Name x2 p2, .Name x3 p3] kk tp) iter elt scope (own.map (·.2)) j1 j2 j3 s fun ds => Φ (.r s.ce.length) (s.push .lst (ds.map .d)))
    (hs : ∀ x, foldedSetIterable iter X.env x = pure x := by intro _; rfl) : JE X F (.ListComp elt [⟨.Tuple [.Name x1 p1, .Name x2 p2, .Name x3 p3] kk tp, iter, [], 0⟩] scope pos) s Φ :=
  je_of (pe_lc bx.calm bx.nd (pi_sem X _ iter) ok (pg_B3 bx hn1 hn2 hn3) pts_B pe_B hs) fun as G H σ Q c k => lc3_read hj1 hj2 hj3 h as G H σ Q c fun v as' G' H' ds c' x' ve q => k v as' G' H' _ _ c' x' ve q
end
/-! ### == of simple values -/
inductive Vv where
  | n | i (z : Int) | a | t | y
deriving DecidableEq
abbrev vvD : Vv → D
  | .n => .non
  | .i z => .int z
  | .a => .str "l1"
  | .t => .nd .tup [.str "l1", .str "l2"]
  | .y => .str "none yet"
def vvP : Vv → PyData
  | .n => .none
  | .i z => .int z
  | .a => .str "l1"
  | .t => .tuple [.str "l1", .str "l2"]
  | .y => .str "none yet"
theorem vvD_imm : ∀ (a : Vv), (vvD a).imm = true
  | .n => rfl
  | .i _ => rfl
  | .a => rfl
  | .t => rfl
  | .y => rfl
theorem dp_vvD {K : PySem.W.Frag} {G H : Hp} {as : List Addr} {v : V} {x : Vv} (sg : Same G H) (ve : VE K G as v (.d (vvD x))) : L2.Dp K H v (vvP x) := by
  have ve : Rep K G v (vvD x) := ve
  cases x with
  | n => cases ve; exact .non
  | i z => cases ve; exact .int z
  | a => cases ve; exact .str _
  | y => cases ve; exact .str _
  | t =>
    cases ve with
    | nd n r =>
      cases r with
      | cons a r =>
        cases r with
        | cons b r =>
          cases r
          cases a
          cases b
          exact .tup (n.mono sg) (.cons (.str _) (.cons (.str _) .nil))
theorem shaped_vvP : ∀ (x : Vv), SeqAt.shaped (vvP x) = true
  | .n => rfl
  | .i _ => rfl
  | .a => by decide +kernel
  | .t => by decide +kernel
  | .y => by decide +kernel
theorem eqv_vvP : ∀ (x y : Vv), PyData.eqv (vvP x) (vvP y) = decide (x = y)
  | .n, .n => rfl
  | .i a, .i b => by
    show (a == b) = _
    by_cases h : a = b
    · subst h; simp
    · rw [decide_eq_false (fun z => h (by cases z; rfl))]; simpa using h
  | .a, .a => by decide +kernel
  | .a, .y => by decide +kernel
  | .y, .a => by decide +kernel
  | .y, .y => by decide +kernel
  | .t, .t => by decide +kernel
  | .n, .i _ => rfl
  | .n, .a => rfl
  | .n, .t => rfl
  | .n, .y => rfl
  | .i _, .n => rfl
  | .i _, .a => rfl
  | .i _, .t => rfl
  | .i _, .y => rfl
  | .a, .n => rfl
  | .a, .i _ => rfl
  | .a, .t => rfl
  | .t, .n => rfl
  | .t, .i _ => rfl
  | .t, .a => rfl
  | .t, .y => rfl
  | .y, .n => rfl
  | .y, .i _ => rfl
  | .y, .t => rfl
theorem jr_eqV {B : Nat} {x y : Vv} {Φ : E → S → Prop} (bx : Bx X B) (q : Φ (.d (.bl (decide (x = y)))) s) : JR X F (compareOp .Eq) (.d (vvD x)) (.d (vvD y)) s Φ :=
  jr_of (op_eqD bx.room.units) fun as G H σ v w Q c v1 v2 k =>
    ⟨_, _, dp_vvD c.sub v1, dp_vvD c.sub v2, shaped_vvP _, shaped_vvP _, by rw [eqv_vvP]; exact k _ as G H _ s c (Ext.refl _ _) (Rep.bl _) q⟩
end DL
namespace DL
open PySem PySem.Spec PyProof.Rows L2
variable {X : Cx} {F : Fr} {s : S}
/-! ### calls with cells that go along, the rest kept in one piece (it is not to be unfolded) -/
def CalQ (R : RS) (s1 : S) (vs : List E) (Φ : E → S → Prop) : Prop := ∃ js ce es0, Goes s1 js ce ∧ vs = es0.map (E.ren (jsF js s1.ce.length)) ∧ es0.all (E.lt js.length) = true ∧ R ce es0 fun e ce' => Φ (e.ren (jsF js s1.ce.length)) (s1.back js ce')
section
variable {a o : Expr} {es : List Expr} {Φ : E → S → Prop} {pos p apos : Pos} {x m : Str} {k B : Nat} {C : Addr} {R : RS}
theorem je_callQ (cb : CbS X x k R) (bx : Bx X B) (hB : k ≤ B) (h : JA X F (a :: es) s fun vs s1 => CalQ R s1 vs Φ) (hdb : (x == ("__debug__" : Str)) = false := by decide)
    (he : starEach (a :: es) X.env = (false, eval a X.env) :: starEach es X.env := by rfl) (hpl : (backTo pos (starEach es X.env)).any (·.1) = false := by rfl) : JE X F (.Call (.Name x p) (a :: es) [] pos) s Φ := je_callS cb bx hB h hdb he hpl
theorem je_methQ {pl : Sem Bool} (cb : CbHS X C m k R) (bx : Bx X B) (hB : k ≤ B)
    (h : JE X F o s fun eo s1 => ∃ fs es', s1.node eo = some (.ins C fs, es') ∧ ixF fs m = none ∧ JA X F (a :: es) s1 fun vs s2 => CalQ R s2 (eo :: vs) Φ)
    (hev : MthEv X o m (a :: es) pos apos pl) (he : starEach (a :: es) X.env = (false, eval a X.env) :: starEach es X.env := by rfl) (hpl : (backTo pos (starEach es X.env)).any (·.1) = false := by rfl) : JE X F (.Call (.Attribute o m apos) (a :: es) [] pos) s Φ := je_methS cb bx hB h hev he hpl
end
theorem ren_l (f : Nat → Nat) (ds : List D) : Cell.ren f (.nd .lst (ds.map E.d)) = .nd .lst (ds.map E.d) := by show Cell.nd .lst ((ds.map E.d).map _) = _; rw [ren_map]
theorem lt_nth {k : Nat} {c : Cell} (h : nth s.ce k = some c) : k < s.ce.length := by rw [nth_eq] at h; exact (List.getElem?_eq_some_iff.mp h).1
end DL
namespace DL
open PySem PySem.Spec PyProof.Rows L2
variable {X : Cx} {F : Fr} {s : S}
section
variable {e a b c elt iter : Expr} {es rest ifs : List Expr} {sts : List Stmt} {Φ : E → S → Prop} {P : Po} {pos p p2 : Pos} {x : Str} {k B : Nat}
/-- the test told first, then each branch once -/
theorem jss_ifK {t u : List Stmt} (M : Bool → S → Prop) (h : JT X F c s M) (h2 : ∀ s1, M true s1 → JSs X F t s1 (P.then fun s2 => JSs X F sts s2 P)) (h3 : ∀ s1, M false s1 → JSs X F u s1 (P.then fun s2 => JSs X F sts s2 P)) : JSs X F (.If c t u pos :: sts) s P :=
  jss_cons (js_if (fun as G H σ Q cz k => h as G H σ Q cz fun b as' G' H' s' c' x q => k b as' G' H' s' c' x (by
    cases b with
    | true => exact h2 _ q
    | false => exact h3 _ q)))
/-- a statement that is never reached -/
theorem jss_never {st : Stmt} (h : False) : JSs X F (st :: sts) s P := h.elim
/-- tuple(t): the very same -/
theorem je_tupleT (g : GlB X "tuple") (h : JE X F a s fun e s1 => ∃ y ds, e = .d y ∧ y = .nd .tup ds ∧ Φ (.d y) s1) (ns : NoStar a := by intro _ _; rfl) : JE X F (.Call (.Name "tuple" p) [a] [] pos) s Φ :=
  je_of (pe_callTy call_tupleT g.gl g.mg PyProof.Rows.boot_tuple (pa_cons (pe_sem X a) pa_nil (ns _ _)) (he := ns _ _)) fun as G H σ Q c k => h as G H σ _ c fun v as1 G1 H1 e1 s1 c1 x1 ve ⟨y, ds, h1, h2, h3⟩ => by
    subst h1 h2
    obtain ⟨d, vs, rfl, n, ves⟩ := c1.node (es := ds.map .d) ve rfl
    exact ⟨d, vs, rfl, n, k _ as1 G1 H1 _ s1 c1 x1 ve h3⟩
/-- t[lo:hi] of a tuple -/
theorem je_sliceT {lo hi : Option Expr} {p2 : Pos} (h : JE X F a s fun e s1 => JO X F lo s1 fun l s2 => JO X F hi s2 fun u s3 => ∃ ds, s3.node e = some (.tup, ds.map .d) ∧ ¬ (HT.sIx ds.length 0 l = 0 ∧ HT.sIx ds.length ds.length u = ds.length) ∧ Φ (.d (.nd .tup (cutD ds l u))) s3) : JE X F (.Subscript a (.Slice lo hi none p2) pos) s Φ :=
  je_of (pe_slice sl_tup (pe_sem X a) (po_sem X lo) (po_sem X hi)) fun as G H σ Q c k => h as G H σ _ c fun v as1 G1 H1 e1 s1 c1 x1 ve h1 => jo_run h1 c1 fun l as2 G2 H2 s2 c2 x2 h2 => jo_run h2 c2 fun u as3 G3 H3 s3 c3 x3 ⟨ds, q1, q0, q2⟩ => by
    obtain ⟨a, vs, rfl, n, w⟩ := c3.node ((x2.trans x3).ve ve) q1
    refine ⟨a, vs, rfl, n, by rw [w.reps.length]; exact q0, fun p hp => ?_⟩
    have sg : Same G3 (upd G3 p (.tup (cutV vs l u))) := same_new (c3.gnone hp)
    exact k _ as3 _ _ (.d (.nd .tup (cutD ds l u))) s3 (c3.addG hp) (((x1.trans x2).trans x3).trans ⟨List.prefix_refl _, sg⟩) (.nd (SqT.of upd_same) ((reps_cut w.reps l u).mono sg)) q2
end
/-! ### a dict of owned lists -/
def refs (n : Nat) : List E := (List.range n).map fun j => .r (2 + j)
theorem refs_succ (n : Nat) : refs (n + 1) = refs n ++ [.r (2 + n)] := by unfold refs; rw [List.range_succ, List.map_append]; rfl
theorem refs_len (n : Nat) : (refs n).length = n := by unfold refs; rw [List.length_map, List.length_range]
theorem refs_get {n j : Nat} (h : j < n) : (refs n)[j]? = some (.r (2 + j)) := by unfold refs; rw [List.getElem?_map, List.getElem?_range h]; rfl
theorem refs_fz {n k : Nat} {x : D} (h : 2 + n ≤ k) : (refs n).map (E.fz k x) = refs n := by
  unfold refs
  rw [List.map_map]
  refine List.map_congr_left fun j hj => ?_
  have := List.mem_range.mp hj
  show (if (2 + j == k) = true then _ else _) = _
  rw [if_neg (by simp; omega)]
theorem refs_lt {n k : Nat} (h : 2 + n ≤ k) : (refs n).all (E.lt k) = true := by
  refine List.all_eq_true.mpr fun e he => ?_
  unfold refs at he
  obtain ⟨j, hj, rfl⟩ := List.mem_map.mp he
  have := List.mem_range.mp hj
  show decide (2 + j < k) = true
  exact decide_eq_true (by omega)
abbrev lcC (x : List D) : Cell := .nd .lst (x.map .d)
def fzS (sl : List (Option E)) (c0 : Cell) (ks : List Key) (xs : List (List D)) (ar m : Nat) : S := ⟨sl, c0 :: .nd (.dct ks) (refs m ++ (xs.drop m).map fun x => .d (.nd .lst x)) :: (xs.take m).map lcC, ar⟩
theorem ltB_mono {k l : Nat} (h : k ≤ l) {sl : List (Option E)} (q : sl.all (E.ltB k) = true) : sl.all (E.ltB l) = true := by
  refine List.all_eq_true.mpr fun e he => ?_
  have := List.all_eq_true.mp q e he
  cases e with
  | none => rfl
  | some e =>
    cases e with
    | d x => rfl
    | r j => have : decide (j < k) = true := this
             have := of_decide_eq_true this
             exact decide_eq_true (by omega)
theorem cltB_mono {k l : Nat} (h : k ≤ l) {c : Cell} (q : c.ltB k = true) : c.ltB l = true := by
  cases c with
  | gone => rfl
  | nd kd es =>
    refine List.all_eq_true.mpr fun e he => ?_
    have := List.all_eq_true.mp q e he
    cases e with
    | d x => rfl
    | r j => have : decide (j < k) = true := this
             have := of_decide_eq_true this
             exact decide_eq_true (by omega)
theorem fzm_d {k : Nat} {x : D} (ds : List D) : (ds.map E.d).map (E.fz k x) = ds.map E.d := by rw [List.map_map]; rfl
theorem lcC_fz {k : Nat} {x : D} (xs : List (List D)) : (xs.map lcC).map (Cell.fz k x) = xs.map lcC := by
  rw [List.map_map]
  refine List.map_congr_left fun y _ => ?_
  show Cell.nd _ _ = _
  rw [fzm_d]
theorem lcC_lt {k : Nat} (xs : List (List D)) : (xs.map lcC).all (Cell.ltB k) = true := by
  refine List.all_eq_true.mpr fun c hc => ?_
  obtain ⟨y, _, rfl⟩ := List.mem_map.mp hc
  exact List.all_eq_true.mpr fun e he => by obtain ⟨d, _, rfl⟩ := List.mem_map.mp he; rfl
theorem jss_frzN {sts : List Stmt} {P : Po} {sl : List (Option E)} {c0 : Cell} {ks : List Key} {xs : List (List D)} {ar : Nat}
    (h0 : ∀ k x, 2 ≤ k → sl.map (Option.map (E.fz k x)) = sl) (hc : ∀ k x, 2 ≤ k → c0.fz k x = c0) (h1 : sl.all (E.ltB 2) = true) (h2 : c0.ltB 2 = true) (ha : ar ≤ 2) (h : JSs X F sts (fzS sl c0 ks xs ar 0) P) :
    ∀ m, m ≤ xs.length → JSs X F sts (fzS sl c0 ks xs ar m) P
  | 0, _ => h
  | m + 1, hm => by
    obtain ⟨y, hy⟩ : ∃ y, xs[m]? = some y := ⟨_, List.getElem?_eq_getElem (by omega)⟩
    have tk : xs.take (m + 1) = xs.take m ++ [y] := by rw [List.take_add_one, hy]; rfl
    have dr : xs.drop m = y :: xs.drop (m + 1) := by rw [List.drop_eq_getElem_cons (by omega)]; rw [List.getElem?_eq_getElem (by omega)] at hy; cases hy; rfl
    have tl : (xs.take m).length = m := by rw [List.length_take]; omega
    have q : nth (fzS sl c0 ks xs ar (m + 1)).ce (2 + m) = some (.nd .lst (y.map .d)) := by
      rw [nth_eq]
      show (c0 :: _ :: (xs.take (m + 1)).map lcC)[2 + m]? = _
      rw [show 2 + m = m + 1 + 1 by omega, List.getElem?_cons_succ, List.getElem?_cons_succ, List.getElem?_map, tk, List.getElem?_append_right (by omega), tl, Nat.sub_self]
      rfl
    refine jss_frz (k := 2 + m) (ds := y) q (dsOf_map _) (fun C fs z => by cases z) (by show ar ≤ _; omega) ?_
    refine jss_weak (s' := fzS sl c0 ks xs ar m) ⟨fun i e he => ?_, ?_, ?_, rfl, ?_⟩ ?_ ?_ (jss_frzN h0 hc h1 h2 ha h m (by omega))
    · show (sl.map (Option.map (E.fz (2 + m) _)))[i]? = _
      rw [h0 _ _ (by omega)]; exact he
    · show sl.length = (sl.map _).length
      rw [List.length_map]
    · show _ <+: (setN (c0 :: _ :: (xs.take (m + 1)).map lcC) (2 + m) .gone).map (Cell.fz (2 + m) (.nd .lst y))
      rw [setN_eq, show 2 + m = m + 1 + 1 by omega, List.set_cons_succ, List.set_cons_succ, tk, List.map_append, List.set_append_right _ _ (by rw [List.length_map]; omega), List.length_map, tl, Nat.sub_self]
      show _ <+: Cell.fz _ _ c0 :: Cell.fz _ _ _ :: (List.map (Cell.fz _ _) ((xs.take m).map lcC ++ [Cell.gone]))
      rw [hc _ _ (by omega), List.map_append, lcC_fz]
      refine ⟨[.gone], ?_⟩
      show _ :: _ :: _ = _
      congr 1
      show Cell.nd _ _ :: _ = Cell.nd _ (List.map _ _) :: _
      rw [List.map_append, refs_succ, List.map_append, show m + 1 + 1 = 2 + m by omega, refs_fz (Nat.le_refl _), dr]
      show Cell.nd _ _ :: _ = Cell.nd _ (refs m ++ [if (2 + m == 2 + m) = true then _ else _] ++ _) :: _
      rw [if_pos (by simp), show (List.map (E.fz (2 + m) (.nd .lst y)) ((xs.drop (m + 1)).map fun x => E.d (.nd .lst x))) = (xs.drop (m + 1)).map fun x => E.d (.nd .lst x) by rw [List.map_map]; rfl, List.append_assoc]
      rfl
    · show ar ≤ (c0 :: _ :: _).length
      simp only [List.length_cons]
      omega
    · refine ltB_mono ?_ h1
      show 2 ≤ (c0 :: _ :: _).length
      simp only [List.length_cons]
      omega
    · have el : (fzS sl c0 ks xs ar m).ce.length = 2 + m := by
        show (c0 :: _ :: (xs.take m).map lcC).length = _
        simp only [List.length_cons, List.length_map, tl]
        omega
      rw [el]
      show (c0.ltB _ && (Cell.ltB _ _ && List.all _ _)) = true
      rw [cltB_mono (by omega) h2, lcC_lt]
      show (true && ((refs m ++ _).all (E.lt _) && true)) = true
      rw [List.all_append, refs_lt (Nat.le_refl _)]
      simp only [Bool.true_and, Bool.and_true]
      exact List.all_eq_true.mpr fun e he => by obtain ⟨d, _, rfl⟩ := List.mem_map.mp he; rfl
end DL
namespace DL
open PySem PySem.Spec PyProof.Rows L2
variable {X : Cx} {F : Fr} {s : S}
section
variable {e a b c elt iter : Expr} {es rest ifs : List Expr} {sts : List Stmt} {Φ : E → S → Prop} {P : Po} {pos p p2 : Pos} {x : Str} {k B : Nat}
/-- {x: None}, x a name that holds a text; owned -/
theorem jn_dictN {Θ : Kd → List E → S → Prop} {i j : Nat} {z : Str} {pk pv : Pos} (nm : NmR X i x) (hs : nth s.sl i = some (some (.d (.str z)))) (h : Θ (.dct [.inr z]) [.d .non] s) : JN X F (.Dict [some (.Name x pk)] [.Constant .none j pv] pos) s Θ := fun as G H σ Q c k =>
  PE.sem (pe_disp (pps_cons (pe_var nm.nm nm.vis nm.dbg nm.cdt) pe_non pps_nil) (by rfl) (by rfl) (fun z => by cases z) (by show 1 ≤ 15; decide)) fun q hq => by
    rw [nth_eq] at hs
    obtain ⟨v, h1, h2⟩ := c.slots i _ hs
    cases h2
    refine ⟨.str z, h1, ?_⟩
    refine ⟨upd_same, [(.inr z, .non)], rfl, by show 1 ≤ 15; decide, ?_⟩
    rw [upd_upd]
    exact k q [.non] as G H (.dct [.inr z]) [.d .non] s c (Ext.refl _ _) hq (fun ks z => by cases z; exact ⟨rfl, by simp⟩) (.cons Rep.non .nil) h
/-- {x: []}, x a name that holds a text; owned, the list frozen -/
theorem jn_dictL {Θ : Kd → List E → S → Prop} {i : Nat} {z : Str} {pk pv : Pos} (nm : NmR X i x) (hs : nth s.sl i = some (some (.d (.str z)))) (h : Θ (.dct [.inr z]) [.d (.nd .lst [])] s) : JN X F (.Dict [some (.Name x pk)] [.List [] pv] pos) s Θ := fun as G H σ Q c k =>
  PE.sem (pe_disp (pps_cons (pe_var nm.nm nm.vis nm.dbg nm.cdt) (pe_lst pa_nil) pps_nil) (by rfl) (by rfl) (fun z => by cases z) (by show 1 ≤ 15; decide)) fun q hq => by
    rw [nth_eq] at hs
    obtain ⟨v, h1, h2⟩ := c.slots i _ hs
    cases h2
    refine ⟨.str z, h1, ?_⟩
    refine ⟨Nat.zero_le _, fun p hp => ?_⟩
    have ne : p ≠ q := fun e => by rw [e, upd_same] at hp; cases hp
    rw [upd_ne ne] at hp
    refine ⟨by rw [upd_ne (Ne.symm ne)]; exact upd_same, [(.inr z, .ref p)], rfl, by show 1 ≤ 15; decide, ?_⟩
    have e9 : ∀ o, upd (upd (upd H q (.dK [])) p (.lst [])) q o = upd (upd H p (.lst [])) q o := fun o => by
      funext b
      by_cases h1 : b = q
      · rw [h1, upd_same, upd_same]
      · rw [upd_ne h1, upd_ne h1]
        by_cases h2 : b = p
        · rw [h2, upd_same, upd_same]
        · rw [upd_ne h2, upd_ne h2, upd_ne h1]
    rw [e9]
    exact k q [.ref p] as (upd G p (.lst [])) (upd H p (.lst [])) (.dct [.inr z]) [.d (.nd .lst [])] s (c.addG hp) ⟨List.prefix_refl _, same_new (c.gnone hp)⟩ (by rw [upd_ne (Ne.symm ne)]; exact hq) (fun ks z => by cases z; exact ⟨rfl, by simp⟩) (.cons (Rep.nd (k := .lst) (SqL.of upd_same) .nil) .nil) h
end
end DL
namespace DL
open PySem PySem.Spec PyProof.Rows L2
variable {X : Cx} {F : Fr} {s : S}
theorem reps_rev {K : PySem.W.Frag} {G : Hp} : ∀ {vs : List V} {ds : List D}, Reps K G vs ds → Reps K G vs.reverse ds.reverse
  | _, _, .nil => .nil
  | _, _, .cons r t => by
    rw [List.reverse_cons, List.reverse_cons]
    exact (reps_rev t).append (.cons r .nil)
section
variable {e a b c elt iter : Expr} {es rest ifs : List Expr} {sts : List Stmt} {Φ : E → S → Prop} {P : Po} {pos p p1 p2 p3 : Pos} {x : Str} {k B : Nat}
/-- xs[::-1], frozen -/
theorem je_revL (h : JE X F e s fun e1 s1 => ∃ ds : List D, s1.node e1 = some (.lst, ds.map .d) ∧ Φ (.d (.nd .lst ds.reverse)) s1) : JE X F (.Subscript e (.Slice none none (some (.UnaryOp .USub (.Constant (.int 1) k p1) p2)) p3) pos) s Φ :=
  je_of (pe_revL (pe_sem X e)) fun as G H σ Q c k => h as G H σ _ c fun v as1 G1 H1 e1 s1 c1 x1 ve ⟨ds, q1, q2⟩ => by
    obtain ⟨a, vs, rfl, n, w⟩ := c1.node ve q1
    refine ⟨a, vs, rfl, n, fun p hp => ?_⟩
    have sg : Same G1 (upd G1 p (.lst vs.reverse)) := same_new (c1.gnone hp)
    exact k _ as1 _ _ (.d (.nd .lst ds.reverse)) s1 (c1.addG hp) (x1.trans ⟨List.prefix_refl _, sg⟩) (.nd (SqL.of upd_same) (reps_rev (w.reps.mono sg))) q2
end
end DL
namespace DL
open PySem PySem.Spec PyProof.Rows L2
variable {X : Cx} {F : Fr} {s : S}
/-! ### xs.remove(z), texts -/
def eqS (k : Str) (v : Value) : Bool := match v with
  | .str n _ => n == k
  | _ => false
theorem eqS_gives {k : Str} {t : Tok} : ∀ {us : List Value} {ns : List Str}, StrsAre us ns → ∀ y ∈ us, MeetsSeq.EqGives y (.str k t) (eqS k y)
  | _, _, .nil => fun y hy => by cases hy
  | _, _, .cons n t' h => fun y hy => by
    rcases List.mem_cons.mp hy with e | e
    · rw [e]
      exact fun _ _ _ _ _ _ h => wpAny_eqBool_str (by
        have : decide (n = k) = (n == k) := by rw [Bool.eq_iff_iff, decide_eq_true_iff, beq_iff_eq]
        rw [this]
        exact h)
    · exact eqS_gives h y e
theorem map_erase {α β : Type} (f : α → β) : ∀ (l : List α) (j : Nat), (l.map f).eraseIdx j = (l.eraseIdx j).map f
  | [], j => by simp
  | a :: r, 0 => by simp
  | a :: r, j + 1 => by
    have ih := map_erase f r j
    simp [ih]
def rRemS : V → List V → Hp → VK → Prop := fun x xs H Q => ∃ (l : Addr) (ns : List Str) (k : Str) (j : Nat), x = .ref l ∧ xs = [.str k] ∧ H l = some (.lst (ns.map V.str)) ∧ ns[j]? = some k ∧ (∀ m : Nat, m < j → ns[m]? ≠ some k) ∧ Q .non (upd H l (.lst ((ns.eraseIdx j).map V.str)))
theorem mt_removeS : MtM X "list.remove" rRemS := by
  intro pins s σ H x xs v us Q I rx rxs h
  obtain ⟨l, ns, k, j, rfl, rfl, hH, hj, hno, q⟩ := h
  cases rx
  obtain ⟨u, rfl, ru⟩ := rxs.one
  obtain ⟨t, rfl⟩ := ru
  obtain ⟨z, its, n, r, hl, e⟩ := I.lstM hH
  have hi := strs_of_vals r
  rw [List.length_map] at hl z
  have hjn : j < ns.length := (List.getElem?_eq_some_iff.mp hj).1
  have hjl : j < its.toArray.size := by rw [List.size_toArray]; omega
  refine call_meets PySem.F.slot_list_remove ⟨_, e, rfl⟩ PySem.F.entry_list_remove (PySem.F.args_list_remove_2 _ _)
    (MeetsSeq.list_remove l its.toArray n (.str k t) (eqS k) (fun y hy => eqS_gives hi y (by simpa using hy)) j hjl ?_ ?_ (by rw [List.size_toArray]; omega)) ⟨e, ?_⟩
  · obtain ⟨tj, hjt⟩ := hi.get j k hj
    obtain ⟨h1, h2⟩ := List.getElem?_eq_some_iff.mp hjt
    have e1 : its.toArray[j] = .str k tj := by simpa using h2
    rw [e1]
    exact beq_self_eq_true k
  · intro m hm hmj
    have hmn : m < ns.length := by omega
    obtain ⟨tm, hmt⟩ := hi.get m _ (List.getElem?_eq_getElem hmn)
    obtain ⟨h1, h2⟩ := List.getElem?_eq_some_iff.mp hmt
    have e1 : its.toArray[m] = .str ns[m] tm := by simpa using h2
    rw [e1]
    refine beq_eq_false_iff_ne.mpr fun e2 => hno m hmj ?_
    rw [List.getElem?_eq_getElem hmn, e2]
  · have rr := r.eraseIdx j
    rw [map_erase] at rr
    refine ⟨.non, _, I.lset (its' := its.eraseIdx j) (t' := s.toks) hH e ?_ rr ?_, rfl, q⟩
    · show its.toArray.eraseIdxIfInBounds j = (its.eraseIdx j).toArray
      rw [List.eraseIdxIfInBounds_toArray]
    · rw [List.length_map]
      have z2 : (ns.eraseIdx j).length ≤ ns.length := by rw [List.length_eraseIdx]; split <;> omega
      omega
theorem vs_strsL {K : PySem.W.Frag} {G : Hp} : ∀ {ns : List Str} {vs : List V}, Reps K G vs (ns.map D.str) → vs = ns.map V.str
  | [], _, .nil => rfl
  | n :: ns, _, .cons r t => by
    cases r
    rw [vs_strsL t]
    rfl
section
variable {e a b c o elt iter : Expr} {es rest ifs : List Expr} {sts : List Stmt} {Φ : E → S → Prop} {P : Po} {pos p apos p1 p2 p3 : Pos} {x : Str} {k B : Nat}
/-- xs.remove(z), xs an owned list of texts that holds z -/
theorem je_removeS (h : JE X F o s fun eo s1 => ∃ k es0, eo = .r k ∧ nth s1.ce k = some (.nd .lst es0) ∧ JE X F e s1 fun v s2 => ∃ (ts : List Str) (z : Str) (j : Nat), v = .d (.str z) ∧ nth s2.ce k = some (.nd .lst ((ts.map D.str).map .d)) ∧ ts[j]? = some z ∧ (∀ m : Nat, m < j → ts[m]? ≠ some z) ∧ Φ (.d .non) (s2.put k .lst (((ts.eraseIdx j).map D.str).map .d)))
    (hbase : attributeBase o "remove" X.env (eval o X.env) = eval o X.env := by rfl)
    (hfew : ((backTo pos (starEach (e :: []) X.env)).all (fun x => !x.1) && (backToKw pos (keywordEach [] X.env)).all (fun x => x.1.isSome)
      && decide ((e :: ([] : List Expr)).length + ([] : List Keyword).length + (if ([] : List Keyword).isEmpty then 0 else 1) < 30)) = true := by rfl)
    (hline : (apos.endLine == pos.line) = true := by rfl) (hs : NoStar e := by intro _ _; rfl) (hplain : (backTo pos (starEach [] X.env)).any (·.1) = false := by rfl) :
    JE X F (.Call (.Attribute o "remove" apos) [e] [] pos) s Φ :=
  je_of (pe_bm PySem.F.plainAttrs_list PySem.F.slot_list_remove PySem.F.type_list_remove mt_removeS (pe_sem X o) (pa_cons (pe_sem X e) pa_nil (hs _ _)) hbase hfew hline (hs _ _) hplain) fun as G H σ Q c kk =>
    h as G H σ _ c fun v1 as1 G1 H1 e1 s1 c1 x1 ve1 ⟨k, es0, q1, q2, h1⟩ => by
      subst q1
      obtain ⟨a, ha, rfl⟩ := ve1
      rw [nth_eq] at q2
      obtain ⟨a', vs, g1, g2, g3⟩ := c1.cells k _ _ q2
      rw [ha] at g1
      cases g1
      refine ⟨.inl ⟨rfl, vs, SqL.of g2⟩, ?_⟩
      refine h1 as1 G1 H1 σ _ c1 fun v2 as2 G2 H2 e2 s2 c2 x2 ve2 ⟨ts, z, j, w0, w1, w2, w3, w4⟩ => ?_
      subst w0
      rw [nth_eq] at w1
      obtain ⟨b, ws, y1, y2, y3⟩ := c2.cells k _ _ w1
      have ha2 := pre_get x2.pre ha
      rw [ha2] at y1
      cases y1
      have y2' : H2 a = some (.lst ws) := y2
      obtain rfl := vs_strsL y3.reps
      obtain rfl : v2 = .str z := by cases ve2; rfl
      refine ⟨a, ts, z, j, rfl, rfl, y2', w2, w3, ?_⟩
      exact kk _ as2 G2 _ _ _ (c2.put (kd := .lst) w1 ha2 upd_same (VEs.ofReps (reps_strs (ts.eraseIdx j)))) (x1.trans x2) Rep.non w4
/-- xs.clear(), xs an owned list -/
theorem je_clearL (h : JE X F o s fun eo s1 => ∃ k es0, eo = .r k ∧ nth s1.ce k = some (.nd .lst es0) ∧ Φ (.d .non) (s1.put k .lst []))
    (hbase : attributeBase o "clear" X.env (eval o X.env) = eval o X.env := by rfl) (hline : (apos.endLine == pos.line) = true := by rfl) : JE X F (.Call (.Attribute o "clear" apos) [] [] pos) s Φ :=
  je_of (pe_bm0 PySem.F.plainAttrs_list PySem.F.slot_list_clear PySem.F.type_list_clear mt_clear (pe_sem X o) hbase hline) fun as G H σ Q c kk =>
    h as G H σ _ c fun v1 as1 G1 H1 e1 s1 c1 x1 ve1 ⟨k, es0, q1, q2, h1⟩ => by
      subst q1
      obtain ⟨a, ha, rfl⟩ := ve1
      rw [nth_eq] at q2
      obtain ⟨a', vs, g1, g2, g3⟩ := c1.cells k _ _ q2
      rw [ha] at g1
      cases g1
      have g2' : H1 a = some (.lst vs) := g2
      refine ⟨.inl ⟨rfl, vs, SqL.of g2⟩, a, vs, rfl, rfl, g2', ?_⟩
      exact kk _ as1 G1 _ _ _ (c1.put (kd := .lst) q2 ha upd_same .nil) x1 Rep.non h1
end
end DL
namespace DL
open PySem PySem.Spec PyProof.Rows L2
variable {X : Cx} {F : Fr} {s : S} {tg iter : Expr} {body sts : List Stmt} {pos : Pos} {P : Po}
theorem ves_at {K : PySem.W.Frag} {G : Hp} {as : List Addr} : ∀ {vs : List V} {es : List E} {i : Nat} {v : V}, VEs K G as vs es → vs[i]? = some v → ∃ e, es[i]? = some e ∧ VE K G as v e
  | _, _, 0, _, .cons r t, h => by cases h; exact ⟨_, rfl, r⟩
  | _, _, i + 1, _, .cons r t, h => ves_at t (i := i) (by simpa using h)
/-- a loop over an owned list that is an argument -/
theorem js_forA {B : Nat} (bx : Bx X B) (h : JE X F iter s fun e s1 => ∃ (k : Nat) (es : List E) (In : Nat → S → Prop), e = .r k ∧ k < s1.ar ∧ In 0 s1 ∧ (∀ i s', In i s' → nth s'.ce k = some (.nd .lst es)) ∧ (∀ i v s', es[i]? = some v → In i s' → Turn1 X F tg body P (In (i + 1)) v s') ∧ ∀ s', In es.length s' → P.nx s')
    (hs : ∀ x, foldedSetIterable iter X.env x = pure x := by intro _; rfl) : JS X F (.For tg iter body [] pos) s P := fun as G H σ D c k =>
  PS.sem (ps_for bx.po bx.calm (pi_list (pe_sem X iter)) (pg_sem X tg) (pss_sem X body) hs) (h as G H σ _ c fun v as1 G1 H1 e1 s1 c1 x1 ve ⟨kk, es, In, e2, hk, h0, hI, ht, hd⟩ => by
    subst e2
    obtain ⟨a, ha, rfl⟩ := ve
    have hA : F.A0[kk]? = some a := by
      have l : kk < F.A0.length := by have := c1.har; omega
      have := pre_get c1.pre (List.getElem?_eq_getElem l)
      rw [ha] at this
      rw [List.getElem?_eq_getElem l, ← Option.some.inj this]
    have at_ : ∀ {as' : List Addr} {G' H' : Hp} {σ' : L2.St} {s' : S} {i : Nat}, Cz X F as' G' H' σ' s' → In i s' → ∃ vs, SqL X.K H' a vs ∧ VEs X.K G' as' vs es := fun {as' G' H' σ' s' i} c' q => by
      have hc := hI i s' q
      rw [nth_eq] at hc
      obtain ⟨b, vs, y1, y2, y3⟩ := c'.cells kk _ _ hc
      rw [pre_get c'.pre hA] at y1
      cases y1
      exact ⟨vs, SqL.of y2, y3⟩
    obtain ⟨vs0, q0, _⟩ := at_ c1 h0
    refine ⟨a, rfl, ⟨vs0, q0⟩, ?_⟩
    refine for_any (J := Itl X.K a) (n := es.length) (fun i σ' H' => ∃ as' G' s', Cz X F as' G' H' σ' s' ∧ Same G1 G' ∧ In i s') ⟨as1, G1, s1, c1, Same.refl _, h0⟩ (fun σ' H' ⟨as', G', s', c', x', q⟩ => ?_) (fun i σ' H' hi ⟨as', G', s', c', x', q⟩ => ?_)
      (fun i σ' H' hi ⟨as', G', s', c', x', q⟩ v H2 y => ?_) fun σ' H' ⟨as', G', s', c', x', q⟩ => k.nx as' G' H' σ' s' c' (x1.sub.trans x') (hd s' q)
    · obtain ⟨vs, q1, q2⟩ := at_ c' q
      exact ⟨vs, q1, by rw [Paired.length q2]; exact Nat.le_refl _⟩
    · obtain ⟨vs, q1, q2⟩ := at_ c' q
      exact ⟨vs, vs[i]'(by rw [Paired.length q2]; exact hi), q1, List.getElem?_eq_getElem _⟩
    · obtain ⟨rfl, y⟩ := y
      obtain ⟨vs, q1, q2⟩ := at_ c' q
      obtain ⟨e, he, ve⟩ := ves_at q2 (y vs q1)
      refine ht i e s' he q as' G' _ σ' v _ c' ve fun as3 G3 H3 σ3 s3 c3 x4 q3 => ?_
      refine q3 as3 G3 H3 σ3 _ c3 ⟨fun as5 G5 H5 σ5 s5 c5 x5 t => ⟨as5, G5, s5, c5, (x'.trans x4.sub).trans x5, t⟩, fun v as5 G5 H5 σ5 e5 s5 c5 x5 ve t => k.rt v as5 G5 H5 σ5 e5 s5 c5 (x1.sub.trans ((x'.trans x4.sub).trans x5)) ve t, fun as5 G5 H5 σ5 s5 c5 x5 t => k.nx as5 G5 H5 σ5 s5 c5 (x1.sub.trans ((x'.trans x4.sub).trans x5)) t,
        fun as5 G5 H5 σ5 s5 c5 x5 t => ⟨as5, G5, s5, c5, (x'.trans x4.sub).trans x5, t⟩⟩)
theorem jss_forA {B : Nat} (bx : Bx X B) (h : JE X F iter s fun e s1 => ∃ (k : Nat) (es : List E) (In : Nat → S → Prop), e = .r k ∧ k < s1.ar ∧ In 0 s1 ∧ (∀ i s', In i s' → nth s'.ce k = some (.nd .lst es)) ∧ (∀ i v s', es[i]? = some v → In i s' → JG X F tg v s' fun s2 => JSs X F body s2 { nx := In (i + 1), ct := In (i + 1), bk := fun s3 => JSs X F sts s3 P, rt := P.rt }) ∧ ∀ s', In es.length s' → JSs X F sts s' P)
    (hs : ∀ x, foldedSetIterable iter X.env x = pure x := by intro _; rfl) : JSs X F (.For tg iter body [] pos :: sts) s P := jss_cons (js_forA bx h hs)
/-! ### a statement run with all its cells as arguments: their addresses stay -/
theorem Cz.toF {as : List Addr} {G H : Hp} {σ : L2.St} (c : Cz X F as G H σ s) : Cz X ⟨F.G0, F.H0, as⟩ as G H σ ⟨s.sl, s.ce, s.ce.length⟩ :=
  ⟨c.sub, c.base, c.new, fun b o h1 h2 => c.frame b o h1 fun z => h2 (c.pre.subset z), c.len, List.prefix_refl _, c.nd, c.own, fun a ha => .inl ha, c.there, c.cells, c.slots, c.slen, c.len⟩
theorem Cz.ofF {as as' : List Addr} {G H G' H' : Hp} {σ σ' : L2.St} {s' : S} (c : Cz X F as G H σ s) (c' : Cz X ⟨F.G0, F.H0, as⟩ as' G' H' σ' s') : Cz X F as' G' H' σ' ⟨s'.sl, s'.ce, s.ar⟩ :=
  have fr : ∀ b o, F.H0 b = some o → b ∉ F.A0 → H' b = some o := fun b o h1 h2 => c'.frame b o h1 fun z => by
    rcases c.fresh b z with h | h
    · exact h2 h
    · rw [h] at h1; cases h1
  have fs : ∀ a ∈ as', a ∈ F.A0 ∨ F.H0 a = none := fun a ha => (c'.fresh a ha).elim (fun h => c.fresh a h) .inr
  ⟨c'.sub, c'.base, c'.new, fr, c'.len, c.pre.trans c'.pre, c'.nd, c'.own, fs, c'.there, c'.cells, c'.slots, c'.slen, c.har⟩
def S.ar' (s : S) (n : Nat) : S := ⟨s.sl, s.ce, n⟩
theorem js_frame {st : Stmt} (h : ∀ F' : Fr, F'.H0 = F.H0 → JS X F' st (s.ar' s.ce.length) { nx := fun s' => P.nx (s'.ar' s.ar), rt := fun e s' => P.rt e (s'.ar' s.ar), bk := fun s' => P.bk (s'.ar' s.ar), ct := fun s' => P.ct (s'.ar' s.ar) }) : JS X F st s P := fun as G H σ D c k =>
  h ⟨F.G0, F.H0, as⟩ rfl as G H σ D c.toF ⟨fun as' G' H' σ' s' c' x q => k.nx as' G' H' σ' _ (c.ofF c') x q, fun v as' G' H' σ' e' s' c' x ve q => k.rt v as' G' H' σ' e' _ (c.ofF c') x ve q, fun as' G' H' σ' s' c' x q => k.bk as' G' H' σ' _ (c.ofF c') x q, fun as' G' H' σ' s' c' x q => k.ct as' G' H' σ' _ (c.ofF c') x q⟩
theorem jss_frame {st : Stmt} (h : ∀ F' : Fr, F'.H0 = F.H0 → JS X F' st (s.ar' s.ce.length) { nx := fun s' => JSs X F sts (s'.ar' s.ar) P, rt := fun e s' => P.rt e (s'.ar' s.ar), bk := fun s' => P.bk (s'.ar' s.ar), ct := fun s' => P.ct (s'.ar' s.ar) }) : JSs X F (st :: sts) s P := jss_cons (js_frame h)
end DL
/-! ### sorted of a list of tuples that begin with texts -/
namespace DL
open PySem PySem.Spec PyProof.Rows L2
inductive Sc where
  | i (z : Int) | s (x : Str)
def scV : Sc → V
  | .i z => .int z
  | .s x => .str x
def scD : Sc → D
  | .i z => .int z
  | .s x => .str x
abbrev Row := Str × List Sc
def rowVs (r : Row) : List V := .str r.1 :: r.2.map scV
def rowD (r : Row) : D := .nd .tup (.str r.1 :: r.2.map scD)
theorem scV_inj : ∀ {a b : Sc} {u : Value}, RelV (scV a) u → RelV (scV b) u → a = b
  | .i z, .i y, _, ⟨t, rfl⟩, ⟨t2, e⟩ => by cases e; rfl
  | .s z, .s y, _, ⟨t, rfl⟩, ⟨t2, e⟩ => by cases e; rfl
  | .i z, .s y, _, ⟨t, rfl⟩, ⟨t2, e⟩ => by cases e
  | .s z, .i y, _, ⟨t, rfl⟩, ⟨t2, e⟩ => by cases e
theorem scVs_inj : ∀ {as bs : List Sc} {us : List Value}, Vals (as.map scV) us → Vals (bs.map scV) us → as = bs
  | [], [], _, _, _ => rfl
  | [], _ :: _, _, .nil, h => by cases h
  | _ :: _, [], _, .cons _ _, h => by cases h
  | a :: as, b :: bs, _, .cons h1 t1, .cons h2 t2 => by rw [scV_inj h1 h2, scVs_inj t1 t2]
theorem rowVs_inj {r q : Row} {us : List Value} (h1 : Vals (rowVs r) us) (h2 : Vals (rowVs q) us) : r = q := by
  obtain ⟨x, as⟩ := r
  obtain ⟨y, bs⟩ := q
  cases h1 with
  | cons a1 t1 => cases h2 with
    | cons a2 t2 =>
      obtain ⟨t, rfl⟩ := a1
      obtain ⟨t', e⟩ := a2
      cases e
      have e2 : as = bs := scVs_inj t1 t2
      rw [e2]
def IsRow (h : Heap) (v : Value) (r : Row) : Prop := ∃ a o us n, v = .ref a ∧ h.get? a = some o ∧ o.cls = .type "tuple" ∧ o.data = .seq us n ∧ Vals (rowVs r) us.toList
theorem IsRow.inj {h : Heap} {v : Value} {r q : Row} (h1 : IsRow h v r) (h2 : IsRow h v q) : r = q := by
  obtain ⟨a, o, us, n, rfl, e1, e2, e3, e4⟩ := h1
  obtain ⟨a', o', us', n', e0, f1, f2, f3, f4⟩ := h2
  cases e0
  rw [e1] at f1
  cases f1
  rw [e3] at f3
  cases f3
  exact rowVs_inj e4 f4
theorem IsRow.keeps {h h' : Heap} {v : Value} {r : Row} (p : IsRow h v r) (k : ∀ b o, h.get? b = some o → o.cls = .type "tuple" → h'.get? b = some o) : IsRow h' v r := by
  obtain ⟨a, o, us, n, e, e1, e2, e3, e4⟩ := p
  exact ⟨a, o, us, n, e, k _ _ e1 e2, e2, e3, e4⟩
def ltT (x y : Str) : Bool := decide (x.cps.toList < y.cps.toList)
theorem swo_txt {α : Type} (k : α → Str) : SrtO.Swo fun v u => ltT (k v) (k u) := by
  refine ⟨fun x y h => ?_, fun x y z h1 h2 => ?_⟩
  · unfold ltT at h ⊢
    rw [decide_eq_true_iff] at h
    rw [decide_eq_false_iff_not]
    exact List.lt_asymm h
  · unfold ltT at h1 h2 ⊢
    rw [decide_eq_false_iff_not] at h1 h2 ⊢
    exact List.not_lt.mpr (List.le_trans (List.not_lt.mp h1) (List.not_lt.mp h2))
open Classical in
noncomputable def rowOf (h : Heap) (v : Value) : Row := if z : ∃ r, IsRow h v r then Classical.choose z else ("", [])
theorem rowOf_eq {h : Heap} {v : Value} {r : Row} (p : IsRow h v r) : rowOf h v = r := by
  unfold rowOf
  rw [dif_pos ⟨r, p⟩]
  exact IsRow.inj (Classical.choose_spec (⟨r, p⟩ : ∃ r, IsRow h v r)) p
section
variable {prog : Program} {w : World} {A : Around} {E : Value → Shared → Prop} {s : Shared}
theorem lex_same {Q : Bool → Shared → Prop} {b fin : Bool} (hq : Q fin s) : ∀ {as : List Sc} {us vs : List Value} (i : Nat), Vals (as.map scV) us → Vals (as.map scV) vs → PySem.W.KatLex prog w A b fin Q (us.zip vs) i s
  | [], _, _, i, .nil, .nil => PySem.W.kat_nil hq
  | a :: as, _, _, i, .cons h1 t1, .cons h2 t2 => by
    cases a with
    | i z =>
      obtain ⟨t, rfl⟩ := h1
      obtain ⟨t', rfl⟩ := h2
      refine PySem.W.kat_cons (SeqAt.EqAt.int_int z t z t' prog w _ _ ?_)
      refine PySem.W.kat_go (fun e1 => PySem.W.kat_yes (lex_same hq (i + 1) t1 t2)) (fun e1 => ?_)
      simp at e1
    | s z =>
      obtain ⟨t, rfl⟩ := h1
      obtain ⟨t', rfl⟩ := h2
      refine PySem.W.kat_cons (SeqAt.EqAt.str_str z t z t' prog w _ _ ?_)
      refine PySem.W.kat_go (fun e1 => PySem.W.kat_yes (lex_same hq (i + 1) t1 t2)) (fun e1 => ?_)
      simp at e1
theorem row_cmp {vs : List Value} {k : Value → Row} (hp : ∀ v ∈ vs, IsRow s.heap v (k v)) (hd : ∀ v ∈ vs, ∀ u ∈ vs, (k v).1 = (k u).1 → k v = k u) : SrtO.Cmp prog w A s (tuples' true) (fun p => p.1 ∈ vs) (SrtO.lt2 fun v u => ltT (k v).1 (k u).1) := by
  intro p q hm hm'
  have h1 := hp _ hm
  have h2 := hp _ hm'
  have h3 := hd _ hm _ hm'
  show wpAny (model prog w) A (keyLt' (tuples' true) p.1 q.1) (fun r s' => s' = s ∧ r = ltT (k p.1).1 (k q.1).1) (fun _ _ => False) s
  generalize k p.1 = r1 at h1 h3 ⊢
  generalize k q.1 = r2 at h2 h3 ⊢
  obtain ⟨x, as⟩ := r1
  obtain ⟨y, bs⟩ := r2
  obtain ⟨a, o, us, n, e, ho, hc, hd1, hv⟩ := h1
  obtain ⟨a', o', us', n', e', ho', hc', hd', hv'⟩ := h2
  rw [e, e']
  refine PySem.W.kat_lt ho hd1 ho' hd' ?_
  generalize hfin : decide (us.size < us'.size) = fin
  have l1 : us.size = as.length + 1 := by rw [← Array.length_toList, ← Paired.length hv]; simp [rowVs]
  have l2 : us'.size = bs.length + 1 := by rw [← Array.length_toList, ← Paired.length hv']; simp [rowVs]
  generalize us.toList = ul at hv ⊢
  generalize us'.toList = ul' at hv' ⊢
  cases hv with
  | cons c1 t1 => cases hv' with
    | cons c2 t2 =>
      obtain ⟨tx, rfl⟩ := c1
      obtain ⟨ty, rfl⟩ := c2
      show PySem.W.KatLex _ _ _ _ _ _ ((_, _) :: _) _ _
      refine PySem.W.kat_cons (SeqAt.EqAt.str_str x tx y ty prog w _ _ ?_)
      refine PySem.W.kat_go (fun e1 => ?_) (fun e1 => ?_)
      · have ex : x = y := by simpa using e1
        have h4 := h3 ex
        cases h4
        have ef : fin = false := by rw [← hfin, l1, l2]; exact decide_eq_false (Nat.lt_irrefl _)
        refine PySem.W.kat_yes (lex_same ⟨rfl, ?_⟩ 1 t1 t2)
        rw [ef]
        exact (decide_eq_false (List.lt_irrefl _)).symm
      · exact PySem.W.kat_no (oneLt_str ⟨rfl, rfl⟩)
theorem row_firsts {h : Heap} : ∀ {vs : List Value}, (∀ v ∈ vs, ∃ r, IsRow h v r) → ∃ fs : List Value, PySem.W.KatTups h vs fs ∧ fs.length = vs.length ∧ ∀ f ∈ fs, ∃ x t, f = Value.str x t
  | [], _ => ⟨[], trivial, rfl, by simp⟩
  | v :: vs, hp => by
    obtain ⟨fs, h1, h2, h3⟩ := row_firsts fun u hu => hp u (List.mem_cons_of_mem _ hu)
    obtain ⟨r, a, o, us, n, rfl, ho, hc, hd, hv⟩ := hp v List.mem_cons_self
    obtain ⟨x, t, hx⟩ : ∃ x t, us[0]? = some (Value.str x t) := by
      rw [← Array.getElem?_toList]
      generalize us.toList = ul at hv
      cases hv with
      | cons c1 _ =>
        obtain ⟨t, rfl⟩ := c1
        exact ⟨_, t, rfl⟩
    exact ⟨_, PySem.W.KatTups.cons ho hc hd hx h1, by simp [h2], fun f hf => by
      rcases List.mem_cons.mp hf with rfl | hf
      · exact ⟨x, t, rfl⟩
      · exact h3 f hf⟩
theorem rows_sortable {a : Addr} {vs : List Value} {k : Value → Row} (h0 : 0 < vs.length) (hp : ∀ v ∈ vs, IsRow s.heap v (k v)) (hd : ∀ v ∈ vs, ∀ u ∈ vs, (k v).1 = (k u).1 → k v = k u) (ha : ∀ o, s.heap.get? a = some o → o.cls ≠ .type "tuple") : SrtO.SortableO prog w A s a vs fun v u => ltT (k v).1 (k u).1 := by
  intro h' keep
  have hp' : ∀ v ∈ vs, IsRow h' v (k v) := fun v hm => (hp v hm).keeps fun b o e c => keep b o (fun z => by subst z; exact ha o e c) e
  obtain ⟨fs, h1, h2, h3⟩ := row_firsts fun v hm => ⟨_, hp' v hm⟩
  refine ⟨tuples' true, fun Q E hq => ?_, row_cmp hp' hd⟩
  refine PySem.W.kat_kind (T := .type "str") h1 (by omega) (fun f hm => ?_) (by rfl) ?_
  · obtain ⟨x, t, rfl⟩ := h3 f hm
    exact PySem.W.Looks.now
  · have e : (Value.type "str" != Value.type "tuple") = true := by first | decide +kernel | rfl | decide
    rw [e]
    exact hq
theorem sorted_rows {l : Addr} {vs : List Value} {k : Value → Row} {Q : Value → Shared → Prop} (hl : s.heap.IsList l vs.toArray) (hz : vs.length ≤ sizeLine) (hp : ∀ v ∈ vs, IsRow s.heap v (k v)) (hd : ∀ v ∈ vs, ∀ u ∈ vs, (k v).1 = (k u).1 → k v = k u)
    (h : ∀ (h' : Heap) (d : Addr) (out : List Value), SrtO.Srtd (fun v u => ltT (k v).1 (k u).1) out → out.Perm vs → (∀ b o, s.heap.get? b = some o → h'.get? b = some o) → s.heap.objs.size ≤ d → (∃ n, h'.get? d = some (seqObj "list" out.toArray n)) → Q (.ref d) { s with heap := h' }) :
    wpAny (model prog w) A (call (.builtin "sorted") [.ref l]) Q E s := by
  refine SrtO.sorted_ord (swo_txt fun v => (k v).1) hl hz (fun h2 h₁ a ha kk => ?_) fun out hs hb => ?_
  · refine rows_sortable (s := { s with heap := h₁ }) (by omega) (fun v hm => (hp v hm).keeps fun b o e _ => (kk b o e).2) hd fun o e => ?_
    have e' : some o = some (seqObj "list" vs.toArray 0) := e.symm.trans ha
    cases e'
    intro c
    exact absurd (Value.type.inj c) (by decide)
  · exact h _ _ out hs hb.perm (fun b o e => PyProof.Rows.sortedAll_old e) (Nat.le_succ _) (PyProof.Rows.sortedAll_at s.heap vs out.toArray)
end
def IsR (K : PySem.W.Frag) (H : Hp) (v : V) (r : Row) : Prop := ∃ t, v = .ref t ∧ SqT K H t (rowVs r)
def rSortedR (K : PySem.W.Frag) : List V → Hp → VK → Prop := fun vs H Q => ∃ (a : Addr) (xs : List V) (rows : List Row) (G : Hp), vs = [V.ref a] ∧ Same G H ∧ SqL K H a xs ∧ Paired (IsR K G) xs rows ∧ (∀ r ∈ rows, ∀ q ∈ rows, r.1 = q.1 → r = q) ∧
  ∀ ys qs p, Paired (IsR K G) ys qs → qs.Perm rows → (qs.map (·.1)).Pairwise (fun x y => ltT y x = false) → H p = none → Q (.ref p) (upd H p (.lst ys))
theorem paired_map2 {α β γ : Type} {R : β → γ → Prop} {f : α → β} {g : α → γ} : ∀ {l : List α}, (∀ a ∈ l, R (f a) (g a)) → Paired R (l.map f) (l.map g)
  | [], _ => .nil
  | a :: l, h => .cons (h a List.mem_cons_self) (paired_map2 fun b hb => h b (List.mem_cons_of_mem _ hb))
section
variable {X : Cx}
theorem cr_sortedR : CallR X (.builtin "sorted") (rSortedR X.K) := by
  intro pins s σ H vs us Q I r h
  obtain ⟨a, xs, rows, G, rfl, sg, hs, hx, hd, q⟩ := h
  obtain ⟨its, rv, hl, hz⟩ := I.list hs
  obtain ⟨u, rfl, ru⟩ := vals1 r
  obtain rfl : u = Value.ref a := ru
  have hr : ∀ x ∈ xs, ∃ t, x = V.ref t := fun x hm => by
    obtain ⟨i, hi⟩ := List.getElem?_of_mem hm
    obtain ⟨r, _, t, e, _⟩ := L2.paired_get hx hi
    exact ⟨t, e⟩
  obtain ⟨e1, e2⟩ := refs_back rv hr
  have at_ : ∀ {v : V} {r : Row}, IsR X.K G v r → ∃ t, v = .ref t ∧ IsRow s.heap (.ref t) r := fun {v r} ⟨t, e, z⟩ => by
    obtain ⟨its2, r2, ⟨o, ho, hc, n, hd⟩, _⟩ := I.tuple (SqT.mono sg z)
    exact ⟨t, e, t, o, _, n, rfl, ho, hc, hd, r2⟩
  have ek : ∀ {xs : List V} {its : List Value} {rows : List Row}, Paired (IsR X.K G) xs rows → Vals xs its → its.map (rowOf s.heap) = rows ∧ ∀ u ∈ its, IsRow s.heap u (rowOf s.heap u) ∧ IsR X.K G (backV u) (rowOf s.heap u) := by
    intro xs its rows h1
    induction h1 generalizing its with
    | nil => intro h2; cases h2; exact ⟨rfl, by simp⟩
    | cons c t ih =>
      intro h2
      cases h2 with
      | cons c2 t2 =>
        obtain ⟨i1, i2⟩ := ih t2
        obtain ⟨t0, rfl, hr⟩ := at_ c
        obtain rfl := (show _ = Value.ref t0 from c2)
        refine ⟨by rw [List.map_cons, rowOf_eq hr, i1], fun u hu => ?_⟩
        rcases List.mem_cons.mp hu with rfl | hu
        · rw [rowOf_eq hr]
          exact ⟨hr, c⟩
        · exact i2 u hu
  obtain ⟨k1, k2⟩ := ek hx rv
  refine sorted_rows (k := rowOf s.heap) hl.isList (by rw [← rv.length]; exact hz) (fun v hv => (k2 v hv).1) (fun v hv u hu e => ?_) fun h' d out h1 h2 kp hd' hn => ?_
  · exact hd _ (by rw [← k1]; exact List.mem_map.mpr ⟨v, hv, rfl⟩) _ (by rw [← k1]; exact List.mem_map.mpr ⟨u, hu, rfl⟩) e
  · have h3 : ∀ u ∈ out, ∃ a, u = Value.ref a := fun u hu => e2 u (h2.mem_iff.mp hu)
    obtain ⟨n, hn⟩ := hn
    refine ⟨.ref d, upd H d (.lst (out.map backV)), I.laid (t' := s.toks) kp hd' ⟨?_, out, n, vals_back h3, hn⟩, rfl, q _ (out.map (rowOf s.heap)) d (paired_map2 fun u hu => (k2 u (h2.mem_iff.mp hu)).2) (by rw [← k1]; exact h2.map _) ?_ (I.hok.fresh hd')⟩
    · rw [List.length_map, h2.length_eq, ← rv.length]
      exact hz
    · rw [List.map_map]
      exact List.pairwise_map.mpr h1
variable {F : Fr} {s : S} {a : Expr} {pos p : Pos} {Φ : E → S → Prop}
theorem rep_scs {K : PySem.W.Frag} {G : Hp} : ∀ {vs : List V} {l : List Sc}, Reps K G vs (l.map scD) ↔ vs = l.map scV
  | vs, [] => ⟨fun h => by cases h; rfl, fun h => by rw [h]; exact .nil⟩
  | vs, a :: l => by
    refine ⟨fun h => ?_, fun h => ?_⟩
    · cases h with
      | cons c t =>
        rw [List.map_cons, ← rep_scs.mp t]
        cases a <;> (cases c; rfl)
    · rw [h]
      refine .cons ?_ (rep_scs.mpr rfl)
      cases a
      · exact .int _
      · exact .str _
theorem rep_row {K : PySem.W.Frag} {G : Hp} {v : V} {r : Row} : Rep K G v (rowD r) ↔ IsR K G v r := by
  refine ⟨fun h => ?_, fun ⟨t, e, h⟩ => ?_⟩
  · cases h with
    | nd n rs =>
      cases rs with
      | cons c t =>
        cases c
        rw [rep_scs.mp t] at n
        exact ⟨_, rfl, n⟩
  · subst e
    exact .nd (k := .tup) h (.cons (.str _) (rep_scs.mpr rfl))
theorem reps_rows {K : PySem.W.Frag} {G : Hp} : ∀ {vs : List V} {rows : List Row}, Reps K G vs (rows.map rowD) ↔ Paired (IsR K G) vs rows
  | vs, [] => ⟨fun h => by cases h; exact .nil, fun h => by cases h; exact .nil⟩
  | vs, r :: rows => by
    refine ⟨fun h => ?_, fun h => ?_⟩
    · cases h with
      | cons c t => exact .cons (rep_row.mp c) (reps_rows.mp t)
    · cases h with
      | cons c t => exact .cons (rep_row.mpr c) (reps_rows.mpr t)
/-- sorted of a list of tuples that begin with texts, one text never before two tuples -/
theorem je_sortedR (g : GlB X "sorted") (h : JE X F a s fun e s1 => ∃ rows : List Row, s1.node e = some (.lst, (rows.map rowD).map .d) ∧ (∀ r ∈ rows, ∀ q ∈ rows, r.1 = q.1 → r = q) ∧ ∀ rs : List Row, rs.Perm rows → (rs.map (·.1)).Pairwise (fun x y => ltT y x = false) → Φ (.d (.nd .lst (rs.map rowD))) s1)
    (ns : NoStar a := by intro _ _; rfl) : JE X F (.Call (.Name "sorted" p) [a] [] pos) s Φ :=
  je_of (pe_callB (r := rSortedR X.K) cr_sortedR g.gl g.mg PyProof.Rows.boot_sorted (pa_cons (pe_sem X a) pa_nil (ns _ _)) (he := ns _ _)) fun as G H σ Q c k => h as G H σ _ c fun v as1 G1 H1 e1 s1 c1 x1 ve ⟨rows, h1, h2, h3⟩ => by
    obtain ⟨d, vs, rfl, n, ves⟩ := c1.node ve h1
    refine ⟨d, vs, rows, G1, rfl, c1.sub, n, reps_rows.mp ves.reps, h2, fun ys qs q hy hp hs hq => ?_⟩
    have sg : Same G1 (upd G1 q (.lst ys)) := same_new (c1.gnone hq)
    exact k _ as1 _ _ (.d (.nd .lst (qs.map rowD))) s1 (c1.addG hq) (x1.trans ⟨List.prefix_refl _, sg⟩) (.nd (SqL.of upd_same) ((reps_rows.mpr hy).mono sg)) (h3 qs hp hs)
end
end DL
/-! ### an exception class whose __init__ says super().__init__(x) and keeps x -/
namespace DL
open PySem PySem.Spec PyProof.Rows L2
abbrev supCall (p0 p1 p2 p4 p5 : Pos) (args : List Expr) : Stmt := .Expr (.Call (.Attribute (.Call (.Name "super" p0) [] [] p1) "__init__" p2) args [] p4) p5
abbrev keepF (f x : Str) (q1 q2 q3 q4 : Pos) : Stmt := .Assign [.Attribute (.Name "self" q1) f q2] (.Name x q3) q4
section
variable {prog : Program} {w : World} {A : Around} {E : Value → Shared → Prop} {g : Array GenState} {d : Drawn} {os : OsState}
/-- the bound built-in __init__, called on an exception of an own class -/
theorem bound_init {h : Heap} {t : Nat} {nm qn : Str} {C N u e t0 : Addr} {bs bm us : List Value} {hd ab : Bool} {sn : List Str} {sub : List Value} {col : Option Bool} {dd : Option Addr} {k0 k1 k2 k3 k5 : Option Value} {Q : Value → Shared → Prop}
    (hC : h.get? C = some (excClassObj nm qn C N bs bm hd sn sub ab col dd k0 k1 k2 k3 k5 "ValueError.__new__")) (he : h.get? e = some (PySem.HandSPX.excO C t0)) (hu : h.get? u = some (PySem.W.kxs_mw "ValueError.__init__" e)) (hz : us.length ≤ sizeLine)
    (hq : ∀ h2 t2, (∀ b o, b ≠ e → h.get? b = some o → h2.get? b = some o) → h2.get? e = some (PySem.HandSPX.excO C t2) → Q .none ⟨h2, g, d, t, os⟩) : wpAny (model prog w) A (call (.ref u) us) Q E ⟨h, g, d, t, os⟩ := by
  have FB := PySem.F.excBase_ValueError
  refine wpAny_call (codeAny_of_tree ?_)
  show wpAny (model prog w) A.in1 (callAny (Value.ref u) (Args.mk us [])) _ _ _
  unfold callAny
  refine wpAny_bind (wpAny_load hu ?_)
  refine PySem.W.KFB.if_so (show (Value.type "method-wrapper" == Value.type "method" || Value.type "method-wrapper" == Value.type "builtin_function_or_method" || Value.type "method-wrapper" == Value.type "method-wrapper") = true by decide) ?_
  refine wpAny_bind (PySem.W.check_bound_init FB.toExcCallFacts hC he rfl (wpAny_bind (wpAny_pure (wpAny_pure ⟨plainId_quiet FB.init.plain _, codeAny_builtin FB.initEntry ?_⟩))))
  exact PySem.W.exc_init_tree (cls := .ref C) (t0 := t0) (dv := none) (c2 := .none) (c3 := .none) (b4 := .bool false) he hz fun h2 k e2 _ => hq h2 _ k e2
/-- what is told of such a class -/
structure SupK (P : Program) (K : PySem.W.Frag) (C : Addr) : Prop where
  T : OexC K C
  cls : ∃ cd, PySem.W.clsIn K C = some cd
  own : PySem.W.mroIn K C (.ref C) = some true
  ve : PySem.W.subIn K (.ref C) (.type "ValueError") = some true
  sup : PySem.W.ks_superIn K C C "__init__" = some (some (.builtin "ValueError.__init__"))
  any : PySem.W.nsIn K PySem.cStatics "thirdparty.any" = some none
  top : (P.main.scope.names.lookup ("super" : Str)).isSome = false
/-- its __init__ -/
structure SupI (P : Program) (K : PySem.W.Frag) (C f cc cda : Addr) (params : Arguments) (scope : Scope) (ps : List Str) : Prop where
  code : ∃ cl od vs sl file tf, K.lookup cda = some ⟨cl, od, .fields vs, sl⟩ ∧ vs[2]? = some (.str file tf) ∧ ((P.main.file : Str) == file) = true
  cell : ∃ cl od sl, K.lookup cc = some ⟨cl, od, .cell (some (.ref C)), sl⟩
  hp : ∃ ar, (params.posonlyargs ++ params.args).head? = some ar ∧ ar.arg = "self"
  nocell : ∀ x ∈ scope.names, x.2 ≠ .cell
  ks : scope.names.lookup ("super" : Str) = some .globalImplicit
  kc : scope.names.lookup ("__class__" : Str) = some .free
  kp : ∀ x ∈ ps, scope.names.lookup x = some .local
  kind : scope.kind = .function
  co : scope.isCoroutine = false
  gen : scope.isGenerator = false
abbrev supFn (qual : Str) (params : Arguments) (body : List Stmt) (scope : Scope) (kV dc pm : Value) (an : Option Addr) (cda : Addr) (ct : Value) (cc : Addr) : FuncData := PySem.W.ksFn "__init__" qual params body scope .none kV dc pm an (.ref cda) ct cc
abbrev bnd (e : Addr) (x : Str) (u : Value) : List (Str × Value) := [("self", .ref e), (x, u)]
/-- how super().__init__(..) is asked (its place in the text counts) -/
def SupEv (p0 p1 p2 p4 : Pos) (args : List Expr) : Prop := ∀ env : Env, ∃ pl : Sem Bool, eval (.Call (.Attribute (.Call (.Name "super" p0) [] [] p1) "__init__" p2) args [] p4) env = (do
  let ov ← attributeBase (.Call (.Name "super" p0) [] [] p1) "__init__" env (eval (.Call (.Name "super" p0) [] [] p1) env)
  standAt p2.atName
  let (f, first) ← holding [ov] (getMethod ov "__init__" pl)
  callWith p4 f first (backTo p4 (starEach args env)) [])
theorem run_sup1 {h : Heap} {t : Nat} {K : PySem.W.Frag} {mg : Str → Option Value} {C f cc cda e t0 : Addr} {u : Value} {R : Result → Shared → Prop} {qual x fl : Str} {params : Arguments} {scope : Scope} {kV dc pm ct oc : Value} {an od : Option Addr} {osl : Array (Option Value)} {p0 p1 p2 p3 p4 p5 q1 q2 q3 q4 : Pos}
    (S : SupK prog K C) (J : SupI prog K C f cc cda params scope ["self", x]) (X : K.In h) (lim : h.NoLimit) (G : h.Ns mainGlobals mg) (hs : mg "super" = none) (Bt : ∃ mb, h.Ns builtinsNs mb ∧ ∀ x : Str, x ≠ "__name__" → mb x = bootBuiltins x) (room : A.depth < recursionLimit)
    (lk : K.lookup f = some ⟨oc, od, .func (supFn qual params [supCall p0 p1 p2 p4 p5 [.Name x p3], keepF fl x q1 q2 q3 q4] scope kV dc pm an cda ct cc), osl⟩) (hcd : PySem.W.codeIn K (.ref cda) qual = true)
    (hb : BindsTo ⟨h, g, d, t, os⟩ (supFn qual params [supCall p0 p1 p2 p4 p5 [.Name x p3], keepF fl x q1 q2 q3 q4] scope kV dc pm an cda ct cc) ⟨[.ref e, u], []⟩ [("self", .ref e), (x, u)]) (hev : SupEv p0 p1 p2 p4 [.Name x p3]) (hx : x ≠ "self") (hdb : (x == ("__debug__" : Str)) = false)
    (hf : PySem.W.findIn K (.ref C) fl = some none) (he0 : ∀ o, K.lookup e ≠ some o) (he : h.get? e = some (PySem.HandSPX.excO C t0))
    (hq : ∀ h2 t2 tk dx, (∀ b o, b ≠ e → h.get? b = some o → h2.get? b = some o) → h.objs.size ≤ dx → dx ≠ e → h2.get? e = some { cls := .ref C, dict := some dx, data := .fields #[.ref t2, .none, .none, .none, .bool false, .none] } → h2.Ns1 dx (fun y => if y = fl then some u else none) → R (.ok (.ret .none)) ⟨h2, g, d, tk, os⟩) :
    codeAny (model prog w) A (.call (.ref f) ⟨[.ref e, u], []⟩) R ⟨h, g, d, t, os⟩ := by
  obtain ⟨nm, qn, N, bs, bm, sn, sub, ab, col, dd, k0, k1, k2, k3, k5, hC, hbm⟩ := S.T.cls
  obtain ⟨ccl, cdd, vs, ccs, file, tf, hcode, hvs, hfile⟩ := J.code
  obtain ⟨cl, cld, csl, hcell⟩ := J.cell
  obtain ⟨ar, hp, har⟩ := J.hp
  obtain ⟨mb, hB, hmb⟩ := Bt
  have hcl : PySem.W.clsIn K C = some { name := nm, bases := bs, mro := .ref C :: bm, ns := N, qualname := qn, hasDict := true, slotNames := sn, subclasses := sub, abstract := ab, collection := col, hasDel := false } := by unfold PySem.W.clsIn; rw [hC] <;> rfl
  have kS := J.kp "self" List.mem_cons_self
  have kX := J.kp x (by simp)
  refine PySem.ks_codeAny_call_defAt (fd := supFn qual params _ scope kV dc pm an cda ct cc) (binds := [("self", .ref e), (x, u)]) room (X _ _ lk) rfl lim (PySem.W.codeRec_of X hcd) rfl hb J.nocell (fun y hy => ?_) (fun h1 hns hk => ?_) J.co J.gen J.kind
  · rcases List.mem_cons.mp hy with rfl | hy
    · exact kS
    · obtain rfl := List.mem_singleton.mp hy
      exact kX
  have lz : h.objs.size ≠ e := Nat.ne_of_gt (Heap.lt_size he)
  have ge : ∀ {h2 : Heap} {t2 : Nat} {y : Str} {v : Value} {p : Pos} {A2 : Around} {E2 : Value → Shared → Prop} {Q : Value → Shared → Prop}, h2.Ns h.objs.size (fun y => (bnd e x u).reverse.lookup y) → scope.names.lookup y = some .local → (bnd e x u).reverse.lookup y = some v → (y == ("__debug__" : Str)) = false → Q v ⟨h2, g, d, t2, os⟩ →
      wpAny (model prog w) A2 (eval (.Name y p) (PySem.W.ksEnv qual scope h.objs.size f (.ref cda) cc)) Q E2 ⟨h2, g, d, t2, os⟩ := fun hn hl hv hd q => wpAny_Name (wpAny_loadName_local J.kind hl hn hv q) hd
  have vS : (bnd e x u).reverse.lookup ("self" : Str) = some (Value.ref e) := by
    show ([(x, u), ("self", Value.ref e)] : List (Str × Value)).lookup ("self" : Str) = _
    have : (("self" : Str) == x) = false := by simpa using (Ne.symm hx)
    simp [List.lookup, this]
  have vX : (bnd e x u).reverse.lookup x = some u := by
    show ([(x, u), ("self", Value.ref e)] : List (Str × Value)).lookup x = _
    simp [List.lookup]
  have X1 : K.In h1 := X.keeps hk
  have hi : interactive (PySem.W.ksEnv qual scope h.objs.size f (.ref cda) cc) = false := by simp [interactive, J.kind]
  obtain ⟨pl, hev⟩ := hev (PySem.W.ksEnv qual scope h.objs.size f (.ref cda) cc)
  refine PySem.ks_wpAt_execs_cons (PySem.ks_wpAt_Expr_any (PySem.ks_wpAt_MethodCall ?_ hev) hi)
  refine PySem.ks_wpAt_super_base J.ks J.kc rfl rfl (X1 _ _ lk) rfl hp rfl (X1 _ _ hcode) rfl hvs hfile S.top ?_
  refine PySem.W.ks_loadName_global J.kind J.ks (Calls.loadGlobal_builtin (G.keeps hk) hs (hB.keeps hk) ((hmb "super" (by decide)).trans (show bootBuiltins "super" = some (.type "super") by rfl)) ⟨rfl, ?_⟩)
  refine wpAny_loadName_free J.kind J.kc rfl ⟨_, X1 _ _ hcell, rfl⟩ ?_
  rw [har]
  refine wpAny_loadName_local J.kind kS hns vS ?_
  have oC := X1 _ _ hC
  refine PySem.ks_wpAny_isType_cls oC rfl ⟨rfl, ?_⟩
  have he1 : h1.get? e = some (PySem.HandSPX.excO C t0) := hk _ _ he
  have I1 : PySem.W.InstAt h1 e (PySem.HandSPX.excO C t0) C none := ⟨he1, rfl, rfl, trivial⟩
  refine PySem.ks_wpAny_call_super oC rfl he1 rfl (fun c z => by cases z) (PySem.W.looks_mroIn X1 S.own) fun h2 hso hk2 => ?_
  have X2 : K.In h2 := X1.keeps hk2
  have he2 := hk2 _ _ he1
  have I2 : PySem.W.InstAt h2 e (PySem.HandSPX.excO C t0) C none := ⟨he2, rfl, rfl, trivial⟩
  have hal : PySem.W.alongIn K "__init__" (((Value.ref C :: bm).dropWhile (· != .ref C)).drop 1) = some (some (.builtin "ValueError.__init__")) := by
    have := S.sup
    unfold PySem.W.ks_superIn at this
    rw [hcl] at this
    exact this
  refine PySem.W.kxs_getMethod PySem.W.kxs_ValueError hso (PySem.W.looks_opaque X2 S.any) (l₀ := .ref C :: bm) (fun A Q E s k q => wpAny_bind ((PySem.W.looks_clsIn X2 hcl) A _ E s k (wpAny_pure q))) rfl X2 hal (I2.type.andThen (PySem.W.looks_subIn X2 S.ve)) (PySem.W.ks_ne X2 I2 hcl) rfl ?_
  have hk3 : ∀ b o, h2.get? b = some o → (h2.push (PySem.W.kxs_mw "ValueError.__init__" e)).get? b = some o := fun b o z => Heap.get?_push_of_some _ z
  refine PySem.W.kxs_callWith (i := "ValueError.__init__") (x := e) rfl ?_
  show wpAny _ _ (evalArgs _ true ((false, eval (.Name x p3) (PySem.W.ksEnv qual scope h.objs.size f (.ref cda) cc)) :: []) []) _ _ _
  refine Calls.evalArgs_plain (Calls.spliced_cons ?_)
  refine ge (hns.keeps fun b o z => hk3 _ _ (hk2 _ _ z)) kX vX hdb (Calls.spliced_nil ⟨Heap.get?_push_at rfl rfl, ?_⟩)
  refine bound_init (hk3 _ _ (hk2 _ _ oC)) (hk3 _ _ he2) (Heap.get?_push_at rfl rfl) (by rw [sizeLine_eq]; show 1 ≤ _; omega) fun h4 t2 hk4 he4 => ?_
  have kp4 : ∀ b o, b ≠ e → h1.get? b = some o → h4.get? b = some o := fun b o n z => hk4 _ _ n (hk3 _ _ (hk2 _ _ z))
  have nC : C ≠ e := (PySem.W.ks_ne X2 I2 hcl).symm
  obtain ⟨oL, esL, epL, hL, hLr⟩ := hns
  have nL : h.objs.size ≠ e := lz
  have hns4 : h4.Ns h.objs.size (fun y => (bnd e x u).reverse.lookup y) := ⟨oL, esL, epL, kp4 _ _ nL hL, hLr⟩
  refine PySem.ks_wpAt_execs_cons (PySem.ks_wpAt_Assign_Attr ?_)
  refine wpAt_of_wpAny (ge hns4 kX vX hdb (ge hns4 kS vS rfl ?_))
  have X4 : K.In h4 := fun b o z => by
    exact kp4 b o (fun q => he0 o (q ▸ z)) (X1 _ _ z)
  refine PySem.W.set_plain X4 (ox := PySem.HandSPX.excO C t2) (od := none) ⟨he4, rfl, rfl, trivial⟩ S.T.sa ?_
  refine PySem.HandSPX.exc_osa X4 he4 hcl (show PySem.HandSPX.refsVE (.ref C :: bm) = true from hbm) rfl hf fun h5 tk dx k5 dn dne hx5 hn5 => ?_
  refine PySem.wpAt_of_wpAny (wpAny_execs_nil ?_)
  exact hq h5 t2 tk dx (fun b o n z => k5 _ _ n (kp4 _ _ n (hk _ _ z))) (Nat.le_trans (Nat.le_of_lt (Heap.lt_size (kp4 _ _ nL hL))) dn) dne hx5 hn5
end
/-- a class with one field, told whole -/
structure SupC1 (P : Program) (K : PySem.W.Frag) (C : Addr) (fl : Str) : Prop where
  S : SupK P K C
  ex : ∃ (f cc cda : Addr) (params : Arguments) (scope : Scope) (x qual : Str) (kV dc pm ct oc : Value) (an od : Option Addr) (osl : Array (Option Value)) (p0 p1 p2 p3 p4 p5 q1 q2 q3 q4 : Pos),
    SupI P K C f cc cda params scope ["self", x] ∧ PySem.W.findIn K (.ref C) "__init__" = some (some (.ref f)) ∧ PySem.W.typeIn K (.ref f) = some (.type "function") ∧
    K.lookup f = some ⟨oc, od, .func (supFn qual params [supCall p0 p1 p2 p4 p5 [.Name x p3], keepF fl x q1 q2 q3 q4] scope kV dc pm an cda ct cc), osl⟩ ∧ PySem.W.codeIn K (.ref cda) qual = true ∧
    (∀ s v u, BindsTo s (supFn qual params [supCall p0 p1 p2 p4 p5 [.Name x p3], keepF fl x q1 q2 q3 q4] scope kV dc pm an cda ct cc) ⟨[v, u], []⟩ [("self", v), (x, u)]) ∧ SupEv p0 p1 p2 p4 [.Name x p3] ∧ x ≠ "self" ∧ (x == ("__debug__" : Str)) = false
  hf : PySem.W.findIn K (.ref C) fl = some none
section
variable {X : Cx} {e : Expr} {es : List Expr} {ta : TA} {p pos : Pos} {nm fl : Str} {C : Addr}
theorem pmk_sup1 (T : SupC1 X.prog X.K C fl) (hs : X.mg "super" = none) (hr : Room 2 X.A) (hg : Gl X nm) (hm : X.mg nm = some (.ref C)) (ha : PA X (e :: es) ta)
    (hdb : (nm == ("__debug__" : Str)) = false := by decide) (he : starEach (e :: es) X.env = (false, eval e X.env) :: starEach es X.env := by rfl) (hpl : (backTo pos (starEach es X.env)).any (·.1) = false := by rfl) :
    PMk X (.Call (.Name nm p) (e :: es) [] pos) (fun σ H Q => ta σ H fun vs H1 => ∃ v, vs = [v] ∧ ∀ d, H1 d = none → Q (.ref C) (some d) (upd H1 d (.xd [(fl, v)]))) := by
  intro pins s σ H Q I h
  obtain ⟨f, cc, cda, params, scope, x, qual, kV, dc, pm, ct, oc, an, od, osl, p0, p1, p2, p3, p4, p5, q1, q2, q3, q4, J, iC, tI, lk, hcd, hb, hev, hx, hxd⟩ := T.ex
  obtain ⟨nmC, qn, N, bs, bm, sn, sub, ab, col, dd, k0, k1, k2, k3, k5, hC, hbm⟩ := T.S.T.cls
  refine wpAny_Call_Name_kw (ld_glob I hg hm ?_ hdb)
  refine PySem.W.callWith_K (h₀ := X.base) I.ok.mod.kin T.S.T.kC (thn (ha.run pos pins s σ H _ I h) fun us s1 ⟨vs, H1, I1, r1, v, ev, q⟩ => ⟨I1.kIn, ?_⟩) he hpl
  subst ev
  obtain ⟨u, rfl, ru⟩ := vals1 r1
  show wpAny _ _ (call (.ref C) [u]) _ _ _
  obtain ⟨hp, g, dr, tk, os⟩ := s1
  have kk : ∀ b o, hp.get? b = some o → ((hp.push (PySem.W.kdv_tup [u])).push (PySem.HandSPX.excO C hp.objs.size)).get? b = some o := fun b o z => Heap.get?_push_of_some _ (Heap.get?_push_of_some _ z)
  have hge : ((hp.push (PySem.W.kdv_tup [u])).push (PySem.HandSPX.excO C hp.objs.size)).get? (hp.objs.size + 1) = some (PySem.HandSPX.excO C hp.objs.size) := by heap_get
  have X2 := I1.kIn.keeps kk
  have bk2 : ∀ b o, X.base.get? b = some o → ((hp.push (PySem.W.kdv_tup [u])).push (PySem.HandSPX.excO C hp.objs.size)).get? b = some o := fun b o z => kk b o (I1.bk b o z)
  refine wpAny_call (PySem.HandSPX.call_own PySem.F.excBase_ValueError (fun Y => PySem.HandSPX.refsVE_contains Y bm hbm) (I1.kIn _ _ hC) (PySem.W.looks_findIn I1.kIn iC) (fun self => PySem.W.bind_fn I1.kIn self tI) (by rw [sizeLine_eq]; show 1 ≤ _; omega) ?_)
  refine run_sup1 T.S J X2 (I1.mod.nolimit.keeps bk2) (I1.mod.glob.keeps bk2) hs ?_ (hr.make C [u] []).depth lk hcd (hb _ _ _) hev hx hxd T.hf ?_ hge ?_
  · obtain ⟨mb, h1, h2⟩ := I1.mod.blt
    exact ⟨mb, h1.keeps bk2, h2⟩
  · intro o z
    have z2 := I1.kIn _ _ z
    have := Heap.lt_size z2
    exact absurd this (Nat.not_lt.mpr (Nat.le_succ _))
  · intro h2 t2 tk2 dx k2 dn dne hx2 hn2
    have nha : ∀ {b : Addr} {o : Obj}, hp.get? b = some o → b ≠ hp.objs.size + 1 := fun {b o} z => Nat.ne_of_lt (Nat.lt_succ_of_lt (Heap.lt_size z))
    obtain ⟨G, g1, g2⟩ := restrict h2 fun b => decide (b ≠ hp.objs.size + 1)
    have gk : ∀ b, b ≠ hp.objs.size + 1 → G.get? b = h2.get? b := fun b hb => g1 b (decide_eq_true hb)
    have gn : G.get? (hp.objs.size + 1) = none := g2 _ (by simp)
    have kG : ∀ b o, hp.get? b = some o → G.get? b = some o := fun b o z => (gk b (nha z)).trans (k2 b o (nha z) (kk b o z))
    have hsz : hp.objs.size ≤ dx := Nat.le_trans (by rw [size_push', size_push']; omega) dn
    have J2 : Inv X pins σ (upd H1 dx (.xd [(fl, v)])) ⟨G, g, dr, tk2, os⟩ := I1.laid (t' := tk2) (a := dx) (o := .xd [(fl, v)]) (h' := G) kG hsz ⟨_, hn2.at fun o y => (gk dx dne).trans y, relO_put (fs := []) ru fun _ => True.intro⟩
    have hn1 : H1 dx = none := I1.hok.fresh hsz
    refine ⟨rfl, hp.objs.size + 1, _, _, ⟨G, g, dr, tk2, os⟩, _, .ref C, some dx, rfl, J2, fun b o z => ?_, gn, hx2, ⟨rfl, rfl⟩, rfl, rfl, ?_, rfl, I1.bare, raises_own T.S.T.exC T.S.T.tyC, q dx hn1⟩
    · by_cases hba : b = hp.objs.size + 1
      · rw [hba, gn] at z
        cases z
      · exact (gk b hba).symm.trans z
    · rw [upd_ne (Ne.symm dne)]
      exact I1.hok.fresh (Nat.le_succ _)
end
end DL
/-! ### defs that raise; try -/
namespace DL
open PySem PySem.Spec PyProof.Rows L2
/-- an exception: its class, its fields -/
structure Ex where
  C : Addr
  fs : List Str
  ds : List D
def ExAt (K : PySem.W.Frag) (G : Hp) (o : Option Addr) (x : Ex) : Prop := ∃ vs, x.fs.length = vs.length ∧ Reps K G vs x.ds ∧ (x.fs ≠ [] → ∃ dd, o = some dd) ∧ ∀ dd, o = some dd → G dd = some (.xd (x.fs.zip vs))
abbrev RX := List D → (Ex → Prop) → Prop
/-- a def that raises, whatever it is asked -/
def spX (K : PySem.W.Frag) (R : RX) : Sp := fun vs H _ E => ∃ G ds, Same G H ∧ Reps K G vs ds ∧ R ds fun x => ∀ o G' H', Same H H' → Same G G' → Same G' H' → (∀ b, G b = none → H b ≠ none → G' b = none) → ExAt K G' o x → E (.ref x.C) o H'
def MonoX (R : RX) : Prop := ∀ ds p q, (∀ x, p x → q x) → R ds p → R ds q
/-- what is wanted of an exception in the state in which it is raised -/
def TkX (X : Cx) (F : Fr) (W : Ex → S → Prop) : Prop := ∃ WW : WX, Takes X WW ∧ ∀ as G H σ s x o, Cz X F as G H σ s → ExAt X.K G o x → W x s → WW (.ref x.C) o σ H
theorem TkX.imp {X : Cx} {F : Fr} {W W' : Ex → S → Prop} (h : TkX X F W) (i : ∀ x s, W' x s → W x s) : TkX X F W' := by
  obtain ⟨WW, tk, q⟩ := h
  exact ⟨WW, tk, fun as G H σ s x o c ex w => q as G H σ s x o c ex (i x s w)⟩
section
variable {P : Program} {w : World} {K : PySem.W.Frag} {mg : Str → Option Value} {base : Heap} {x qual : Str} {st : Stmt} {f : Addr} {fd : FuncData} {N ps : List Str} {k : Nat}
theorem fn_X {R : RX} (F : Fun K x qual st f fd) (S : FnScope N ps (defScope st)) (hlen : ∀ ds post, R ds post → ds.length = ps.length)
    (body : ∀ (X : Cx) (F : Fr) (ds : List D) (post : Ex → Prop), XIs X P w K mg base N (defScope st) k → (∀ y, X.fn y = true) → X.H_0 = F.H0 → TkX X F (fun x _ => post x) → R ds post → JSs X F (defBody st) (entry N (ds.map .d) [] 0) { nx := fun _ => False, rt := fun _ _ => False }) :
    FnOk P w K mg base (L2.CX P w) (k + 1) f fd ps (spX K R) := by
  refine F.okX S (fun vs H Q E h => ?_) fun cdv A outer s H vs Q Ex hr h => ?_
  · obtain ⟨G, ds, _, r, hR⟩ := h
    rw [r.length]; exact hlen ds _ hR
  · obtain ⟨G, ds, sg, r, hR⟩ := h
    have ve : VEs K G [] vs (ds.map .d) := VEs.ofReps r
    have fin : ∀ {as' : List Addr} {G' H' : Hp} {σ' : L2.St} {s' : DL.S}, Cz (cxOf (L2.CX P w) P w K mg base N qual (defScope st) f cdv A outer s H Ex) ⟨G, H, []⟩ as' G' H' σ' s' → Same H H' := fun {as' G' H' σ' s'} c b o q => c.frame b o q (by simp)
    refine ⟨_, pss_sem _ _, ?_⟩
    refine body _ ⟨G, H, []⟩ ds _ ⟨rfl, rfl, rfl, rfl, rfl, rfl, rfl, rfl, S.nd, passes_of rfl, hr⟩ (fun _ => rfl) rfl ⟨_, takes_of rfl rfl rfl rfl, fun as' G' H' σ' s' x o c ex q => q o G' H' (fin c) c.base c.sub c.new ex⟩ hR [] G H _ _ ?_ ?_
    · refine ⟨sg, Same.refl _, fun _ h _ => h, fun _ _ h _ => h, rfl, List.prefix_refl _, List.nodup_nil, fun k a kd es h => by simp at h, fun a h => by simp at h, fun a h => by simp at h, fun k kd es h => ?_, fun i e h => slots_entry ve N h, ?_, rfl⟩
      · have h : ([] : List Cell)[k]? = some (.nd kd es) := h
        simp at h
      · show (((ds.map E.d).map some) ++ List.replicate (N.length - (ds.map E.d).length) none).length = (L2.start N vs).length
        unfold L2.start
        simp [r.length]
    · exact ⟨fun _ _ _ _ _ _ _ q => q.elim, fun _ _ _ _ _ _ _ _ _ _ q => q.elim, fun _ _ _ _ _ _ _ q => q.elim, fun _ _ _ _ _ _ _ q => q.elim⟩
structure CaX (P : Program) (w : World) (K : PySem.W.Frag) (mg : Str → Option Value) (base : Heap) (x : Str) (k : Nat) (R : RX) : Prop where
  mono : MonoX R
  ex : ∃ f fd ps, mg x = some (.ref f) ∧ PySem.W.keepIn K (.ref f) = true ∧ Binds K fd ps [] ∧ FnOk P w K mg base (L2.CX P w) k f fd ps (spX K R)
structure CaHX (P : Program) (w : World) (K : PySem.W.Frag) (mg : Str → Option Value) (base : Heap) (C : Addr) (m : Str) (k : Nat) (R : RX) : Prop where
  mono : MonoX R
  cl : Cls K C
  ex : ∃ f fd ps, Meth K C m f ∧ Binds K fd ps [] ∧ FnOk P w K mg base (L2.CX P w) k f fd ps (spX K R)
end
structure CbX (X : Cx) (x : Str) (k : Nat) (R : RX) : Prop where
  gl : Gl X x
  mono : MonoX R
  ex : ∃ f fd ps, X.mg x = some (.ref f) ∧ PySem.W.keepIn X.K (.ref f) = true ∧ Binds X.K fd ps [] ∧ FnOk X.prog X.w X.K X.mg X.base (L2.CX X.prog X.w) k f fd ps (spX X.K R)
structure CbHX (X : Cx) (C : Addr) (m : Str) (k : Nat) (R : RX) : Prop where
  mono : MonoX R
  cl : Cls X.K C
  ex : ∃ f fd ps, Meth X.K C m f ∧ Binds X.K fd ps [] ∧ FnOk X.prog X.w X.K X.mg X.base (L2.CX X.prog X.w) k f fd ps (spX X.K R)
theorem CaX.at {X : Cx} {P : Program} {w : World} {K : PySem.W.Frag} {mg : Str → Option Value} {base : Heap} {N : List Str} {sc : Scope} {k j : Nat} {x : Str} {R : RX} (c : CaX P w K mg base x j R) (h : XIs X P w K mg base N sc k)
    (h1 : sc.names.lookup x = some .globalImplicit) : CbX X x j R := by
  obtain ⟨m, f, fd, ps, h2, h3, h4, h5⟩ := c
  have := h.gl h1
  obtain ⟨e1, e2, e3, e4, e5, _⟩ := h
  subst e1 e2 e3 e4 e5
  exact ⟨this, m, f, fd, ps, h2, h3, h4, h5⟩
theorem CaHX.at {X : Cx} {P : Program} {w : World} {K : PySem.W.Frag} {mg : Str → Option Value} {base : Heap} {N : List Str} {sc : Scope} {k j : Nat} {C : Addr} {m : Str} {R : RX} (c : CaHX P w K mg base C m j R) (h : XIs X P w K mg base N sc k) : CbHX X C m j R := by
  obtain ⟨m, cl, f, fd, ps, h2, h4, h5⟩ := c
  obtain ⟨e1, e2, e3, e4, e5, _⟩ := h
  subst e1 e2 e3 e4 e5
  exact ⟨m, cl, f, fd, ps, h2, h4, h5⟩
section
variable {X : Cx} {F : Fr} {s : S} {a e o : Expr} {es : List Expr} {Φ : E → S → Prop} {pos p apos pos2 : Pos} {x m nm fl : Str} {k B : Nat} {C : Addr} {W : Ex → S → Prop} {sts : List Stmt} {P : Po}
/-- f(..) that raises -/
theorem je_callE {R : RX} (tk : TkX X F W) (cb : CbX X x k R) (bx : Bx X B) (hB : k ≤ B)
    (h : JA X F (a :: es) s fun vs s1 => ∃ ds, dsOf vs = some ds ∧ R ds fun x => W x s1) (hdb : (x == ("__debug__" : Str)) = false := by decide) (he : starEach (a :: es) X.env = (false, eval a X.env) :: starEach es X.env := by rfl)
    (hpl : (backTo pos (starEach es X.env)).any (·.1) = false := by rfl) : JE X F (.Call (.Name x p) (a :: es) [] pos) s Φ := by
  obtain ⟨f, fd, ps, h1, h2, h3, h4⟩ := cb.ex
  obtain ⟨WW, tk, hw⟩ := tk
  refine je_of (pe_callS h4 (bx.room.mono hB) cb.gl h1 h2 h3 (fun σ => passAt tk σ) (pa_sem X _) hdb he hpl) fun as G H σ Q c kk => h as G H σ _ c fun vs as1 G1 H1 es1 s1 c1 x1 ves ⟨ds, e1, hR⟩ => ?_
  rw [dsOf_eq e1] at ves
  exact ⟨G1, ds, c1.sub, ves.reps, cb.mono ds _ _ (fun x hx o G' H' q1 q2 q3 q4 ex => hw as1 G' H' σ s1 x o (c1.call q1 q2 q3 q4) ex hx) hR⟩
/-- o.m(..) that raises -/
theorem je_methE {R : RX} {pl : Sem Bool} (tk : TkX X F W) (cb : CbHX X C m k R) (bx : Bx X B) (hB : k ≤ B)
    (h : JE X F o s fun eo s1 => ∃ fs es', s1.node eo = some (.ins C fs, es') ∧ ixF fs m = none ∧ JA X F (a :: es) s1 fun vs s2 => ∃ ds, dsOf (eo :: vs) = some ds ∧ R ds fun x => W x s2)
    (hev : MthEv X o m (a :: es) pos apos pl) (he : starEach (a :: es) X.env = (false, eval a X.env) :: starEach es X.env := by rfl) (hpl : (backTo pos (starEach es X.env)).any (·.1) = false := by rfl) : JE X F (.Call (.Attribute o m apos) (a :: es) [] pos) s Φ := by
  obtain ⟨f, fd, ps, hm, hb, hF⟩ := cb.ex
  obtain ⟨WW, tk, hw⟩ := tk
  intro as G H σ Q c kk pins st I
  have h1 := h as G H σ (fun v H1 => ∃ as1 G1 e1 s1, Cz X F as1 G1 H1 σ s1 ∧ VE X.K G1 as1 v e1 ∧ ∃ fs es', s1.node e1 = some (.ins C fs, es') ∧ ixF fs m = none ∧ JA X F (a :: es) s1 fun vs s2 => ∃ ds, dsOf (e1 :: vs) = some ds ∧ R ds fun x => W x s2) c
    (fun v1 as1 G1 H1 e1 s1 c1 x1 ve1 q => ⟨as1, G1, e1, s1, c1, ve1, q⟩) pins st I
  refine PySem.W.methodCall_KW (pl := pl) (thn h1 ?_) hev
  rintro u st1 ⟨v1, H1, I1, rv, as1, G1, e1, s1, c1, ve1, fs, es', hn, hix, h2⟩
  obtain ⟨ad, vs1, rfl, n, ves1⟩ := c1.node ve1 hn
  obtain ⟨hfl, dx, ea⟩ := n
  obtain rfl : u = Value.ref ad := rv
  refine getmeth_ok I1 ea cb.cl hm (lk_no hix) ?_
  have h3 := h2 as1 G1 H1 σ (fun vs H2 => ∃ as2 G2 es2 s2, Cz X F as2 G2 H2 σ s2 ∧ Ext as1 as2 G1 G2 ∧ VEs X.K G2 as2 vs es2 ∧ ∃ ds, dsOf (e1 :: es2) = some ds ∧ R ds fun x => W x s2) c1
    (fun vs as2 G2 H2 es2 s2 c2 x2 ves q => ⟨as2, G2, es2, s2, c2, x2, ves, q⟩) pos pins
  refine PySem.W.callWith_K (first := [.ref ad]) (h₀ := X.base) I.ok.mod.kin hm.kp (thn (h3 _ (I1.tok _)) ?_) he hpl
  rintro us st2 ⟨vs, H2, I2, rvs, as2, G2, es2, s2, c2, x2, ves, ds, e2, hR⟩
  refine ⟨I2.kIn, ?_⟩
  have ve2 := x2.ve ve1
  have r2 : VEs X.K G2 as2 (.ref ad :: vs) (e1 :: es2) := .cons ve2 ves
  rw [dsOf_eq e2] at r2
  exact run_fnS (us := .ref ad :: us) (vs := .ref ad :: vs) hF (bx.room.mono hB) hb (passAt tk σ) I2 (.cons rfl rvs) ⟨G2, ds, c2.sub, r2.reps, cb.mono ds _ _ (fun x hx o G' H' q1 q2 q3 q4 ex => hw as2 G' H' σ s2 x o (c2.call q1 q2 q3 q4) ex hx) hR⟩
/-- raise C(x) -/
theorem js_raise (tk : TkX X F W) (bx : Bx X B) (hB : 2 ≤ B) (T : SupC1 X.prog X.K C fl) (hs : X.mg "super" = none) (hg : Gl X nm) (hm : X.mg nm = some (.ref C)) (h : JA X F (e :: es) s fun es s1 => ∃ d, es = [.d d] ∧ W ⟨C, [fl], [d]⟩ s1)
    (hdb : (nm == ("__debug__" : Str)) = false := by decide) (he : starEach (e :: es) X.env = (false, eval e X.env) :: starEach es X.env := by rfl) (hpl : (backTo pos (starEach es X.env)).any (·.1) = false := by rfl) :
    JS X F (.Raise (some (.Call (.Name nm p) (e :: es) [] pos)) none pos2) s P := by
  obtain ⟨WW, tk, hw⟩ := tk
  intro as G H σ D c k
  refine PS.sem (ps_raise bx.calm tk (pmk_sup1 T hs (bx.room.mono hB) hg hm (pa_sem X (e :: es)) hdb he hpl)) (h as G H σ _ c fun vs as1 G1 H1 es1 s1 c1 x1 ves ⟨d, ed, q⟩ => ?_)
  subst ed
  cases ves with
  | @cons v _ _ _ r t =>
    cases t
    refine ⟨v, rfl, fun dd hd => hw as1 _ _ σ s1 _ _ (c1.addG hd) ⟨[v], rfl, .cons (Rep.mono (same_new (c1.gnone hd)) r) .nil, fun _ => ⟨dd, rfl⟩, fun d2 z => ?_⟩ q⟩
    cases z
    exact upd_same
theorem jss_raise (tk : TkX X F W) (bx : Bx X B) (hB : 2 ≤ B) (T : SupC1 X.prog X.K C fl) (hs : X.mg "super" = none) (hg : Gl X nm) (hm : X.mg nm = some (.ref C)) (h : JA X F (e :: es) s fun es s1 => ∃ d, es = [.d d] ∧ W ⟨C, [fl], [d]⟩ s1)
    (hdb : (nm == ("__debug__" : Str)) = false := by decide) (he : starEach (e :: es) X.env = (false, eval e X.env) :: starEach es X.env := by rfl) (hpl : (backTo pos (starEach es X.env)).any (·.1) = false := by rfl) :
    JSs X F (.Raise (some (.Call (.Name nm p) (e :: es) [] pos)) none pos2 :: sts) s P := jss_cons (js_raise tk bx hB T hs hg hm h hdb he hpl)
end
end DL
/-! ### try: .. except C as e: .. -/
namespace DL
open PySem PySem.Spec PyProof.Rows L2
section
variable {X : Cx} {F : Fr} {s : S} {as as' : List Addr} {G H G' H' : Hp} {σ σ' : L2.St}
theorem Cz.toG (c : Cz X F as G H σ s) : Cz X ⟨G, F.H0, as⟩ as G H σ (s.ar' s.ce.length) :=
  ⟨c.sub, Same.refl _, fun b h _ => h, fun b o h1 h2 => c.frame b o h1 fun z => h2 (c.pre.subset z), c.len, List.prefix_refl _, c.nd, c.own, fun a ha => .inl ha, c.there, c.cells, c.slots, c.slen, c.len⟩
theorem Cz.ofG {s' : S} (c : Cz X F as G H σ s) (c' : Cz X ⟨G, F.H0, as⟩ as' G' H' σ' s') : Cz X F as' G' H' σ' (s'.ar' s.ar) :=
  have fr : ∀ b o, F.H0 b = some o → b ∉ F.A0 → H' b = some o := fun b o h1 h2 => c'.frame b o h1 fun z => by
    rcases c.fresh b z with h | h
    · exact h2 h
    · rw [h] at h1; cases h1
  have fs : ∀ a ∈ as', a ∈ F.A0 ∨ F.H0 a = none := fun a ha => (c'.fresh a ha).elim (fun h => c.fresh a h) .inr
  ⟨c'.sub, c.base.trans c'.base, fun b q1 q2 => c'.new b (c.new b q1 q2) q2, fr, c'.len, c.pre.trans c'.pre, c'.nd, c'.own, fs, c'.there, c'.cells, c'.slots, c'.slen, c.har⟩
/-- another context over the same written part -/
theorem Cz.cx {Y : Cx} (e : Y.K = X.K) (c : Cz X F as G H σ s) : Cz Y F as G H σ s := by
  refine ⟨c.sub, c.base, c.new, c.frame, c.len, c.pre, c.nd, c.own, c.fresh, c.there, ?_, ?_, c.slen, c.har⟩
  · rw [e]; exact c.cells
  · rw [e]; exact c.slots
end
theorem XIs.tr {X : Cx} {P : Program} {w : World} {K : PySem.W.Frag} {mg : Str → Option Value} {base : Heap} {N : List Str} {sc : Scope} {k : Nat} (h : XIs X P w K mg base N sc k) (pn : List (Addr × Obj)) {xe : Value → Shared → Prop} (po : PassesOwn (model X.prog X.w) X.A X.env xe) : XIs (X.tr pn xe) P w K mg base N sc k :=
  ⟨h.eP, h.eW, h.eK, h.eM, h.eB, h.eN, h.eS, h.calm, h.nd, po, h.room⟩
theorem NmR.suite {X : Cx} {i : Nat} {x : Str} (h : NmR X i x) (a : Addr) (pn : List (Addr × Obj)) : NmR (X.suite a pn) i x := ⟨h.nm, h.vis, h.dbg, h.cdt⟩
/-- what an except clause's suite is run in -/
structure IsSu (X : Cx) (C : Addr) (o : Option Addr) (a : Addr) (Y : Cx) : Prop where
  ex : ∃ oe pn, Y = X.suite a ((a, oe) :: pn) ∧ Zc (.ref C) o oe ∧ ∃ vs, oe.data = .fields vs
def exE (a : Addr) (o : Option Addr) (x : Ex) : E := .d (.nd (.exc a o x.C x.fs) x.ds)
section
variable {X : Cx} {F : Fr} {s : S} {n x : Str} {i B : Nat} {body suite sts : List Stmt} {b₀ : Stmt} {np pos pos' : Pos} {P : Po} {C : Addr}
/-- behind a suite: its name is gone -/
def Po.su (P : Po) (i ar : Nat) : Po := { nx := fun s' => P.nx ((s'.wipe [i]).ar' ar), rt := fun e s' => P.rt e ((s'.wipe [i]).ar' ar), bk := fun s' => P.bk ((s'.wipe [i]).ar' ar), ct := fun s' => P.ct ((s'.wipe [i]).ar' ar) }
def Po.ar (P : Po) (ar : Nat) : Po := { nx := fun s' => P.nx (s'.ar' ar), rt := fun e s' => P.rt e (s'.ar' ar), bk := fun s' => P.bk (s'.ar' ar), ct := fun s' => P.ct (s'.ar' ar) }
/-- the clause's class hits, its suite does the rest -/
def Hit (X : Cx) (F : Fr) (C : Addr) (i ar : Nat) (suite : List Stmt) (P : Po) (x : Ex) (s : S) : Prop :=
  PySem.W.exmOne X.K (.ref x.C) (.ref C) = some true ∧ ∀ a o Y, (x.fs ≠ [] → ∃ dd, o = some dd) → IsSu X x.C o a Y → JSs Y F suite (s.set i (exE a o x)) (P.su i ar)
theorem js_try1 (hT : XTop X) (hN : X.N.Nodup) (hi : X.N[i]? = some n) (hln : X.env.kindOf n = some .local) (hc : Names X x (.ref C))
    (h : ∀ (F' : Fr) (pn : List (Addr × Obj)) (xe : Value → Shared → Prop), F'.H0 = F.H0 → PassesOwn (model X.prog X.w) X.A X.env xe → TkX (X.tr pn xe) F' (Hit X F' C i s.ar (b₀ :: suite) P) → JSs (X.tr pn xe) F' body (s.ar' s.ce.length) (P.ar s.ar)) :
    JS X F (.Try body [.ExceptHandler (some (.Name x np)) (some n) (b₀ :: suite) pos'] [] [] pos) s P := by
  intro as G H σ D c k
  refine PS.sem (ps_try_as (tb := fun W D σ H => ∀ pn xe, Takes (X.tr pn xe) W → PassesOwn (model X.prog X.w) X.A X.env xe → semSs (X.tr pn xe) body D σ H) (ts := fun a cls d D σ H => ∀ oe pn, Zc cls d oe → (∃ vs, oe.data = .fields vs) → semSs (X.suite a ((a, oe) :: pn)) (b₀ :: suite) D σ H)
    hT.stk hT.frm hN hi hln hc takes0 (fun W pn xe tk po => ⟨fun pins st σ H D I q => q pn xe tk po pins st I⟩) (fun a oe cls d pn hz hf => ⟨fun pins st σ H D I q => q oe pn hz hf pins st I⟩)) ?_
  intro pn xe tk po
  have c0 := c.toG
  have back : ∀ {Y : Cx} {as' : List Addr} {G' H' : Hp} {σ' : L2.St} {s' : S}, Y.K = X.K → Cz Y ⟨G, F.H0, as⟩ as' G' H' σ' s' → Cz X F as' G' H' σ' (s'.ar' s.ar) := fun e c' => c.ofG (Cz.cx (Y := X) e.symm c')
  refine h ⟨G, F.H0, as⟩ pn xe rfl po ⟨_, tk, fun as' G' H' σ' s' x o c' ex hw => ?_⟩ as G H σ D (Cz.cx (X := X) (Y := X.tr pn xe) rfl c0) ⟨fun as' G' H' σ' s' c' sm q => k.nx as' G' H' σ' _ (back (Y := X.tr pn xe) rfl c') sm q, fun v as' G' H' σ' e' s' c' sm ve q => k.rt v as' G' H' σ' e' _ (back (Y := X.tr pn xe) rfl c') sm ve q, fun as' G' H' σ' s' c' sm q => k.bk as' G' H' σ' _ (back (Y := X.tr pn xe) rfl c') sm q, fun as' G' H' σ' s' c' sm q => k.ct as' G' H' σ' _ (back (Y := X.tr pn xe) rfl c') sm q⟩
  obtain ⟨hm, hw⟩ := hw
  refine ⟨true, hm, fun _ a na => ?_, fun z => by cases z⟩
  intro oe pn2 hz hf
  obtain ⟨vs, el, rs, eo, ed⟩ := ex
  have cX : Cz X ⟨G, F.H0, as⟩ as' G' H' σ' s' := Cz.cx (X := X.tr pn xe) (Y := X) rfl c'
  have ve : VE X.K G' as' (.ref a) (exE a o x) := Rep.nd (k := .exc a o x.C x.fs) ⟨rfl, el, ed⟩ rs
  have gone : ∀ {as3 : List Addr} {G3 H3 : Hp} {σ3 : L2.St} {s3 : S}, Cz (X.suite a ((a, oe) :: pn2)) ⟨G, F.H0, as⟩ as3 G3 H3 σ3 s3 → Cz X F as3 G3 H3 (σ3.set i none) ((s3.wipe [i]).ar' s.ar) := fun c3 => back (Y := X) rfl ((Cz.cx (X := X.suite a ((a, oe) :: pn2)) (Y := X) rfl c3).wipe [i])
  have sg : Same G G' := c'.base
  refine hw a o _ eo ⟨oe, pn2, rfl, hz, hf⟩ as' G' H' _ _ (Cz.cx (X := X) (Y := X.suite a ((a, oe) :: pn2)) rfl (cX.set (i := i) ve)) ⟨fun as3 G3 H3 σ3 s3 c3 sm q => k.nx as3 G3 H3 _ _ (gone c3) (sg.trans sm) q, fun v as3 G3 H3 σ3 e3 s3 c3 sm ve3 q => k.rt v as3 G3 H3 _ e3 _ (gone c3) (sg.trans sm) ve3 q, fun as3 G3 H3 σ3 s3 c3 sm q => k.bk as3 G3 H3 _ _ (gone c3) (sg.trans sm) q, fun as3 G3 H3 σ3 s3 c3 sm q => k.ct as3 G3 H3 _ _ (gone c3) (sg.trans sm) q⟩
theorem jss_try1 (hT : XTop X) (hN : X.N.Nodup) (hi : X.N[i]? = some n) (hln : X.env.kindOf n = some .local) (hc : Names X x (.ref C))
    (h : ∀ (F' : Fr) (pn : List (Addr × Obj)) (xe : Value → Shared → Prop), F'.H0 = F.H0 → PassesOwn (model X.prog X.w) X.A X.env xe → TkX (X.tr pn xe) F' (Hit X F' C i s.ar (b₀ :: suite) { P with nx := fun s1 => JSs X F sts s1 P }) → JSs (X.tr pn xe) F' body (s.ar' s.ce.length) (Po.ar { P with nx := fun s1 => JSs X F sts s1 P } s.ar)) :
    JSs X F (.Try body [.ExceptHandler (some (.Name x np)) (some n) (b₀ :: suite) pos'] [] [] pos :: sts) s P := jss_cons (js_try1 hT hN hi hln hc h)
end
section
variable {X Y : Cx} {F : Fr} {s : S} {o : Option Addr} {a C : Addr} {e : Expr} {pos : Pos} {n : Str} {Φ : E → S → Prop}
/-- e.f, e the exception that is handled -/
theorem je_efld (hY : IsSu X C o a Y) (T : XfC X.K C) (hno : PySem.W.findIn X.K (.ref C) n = some none) (h : JE Y F e s fun e1 s1 => ∃ d fs ds i y, o = some d ∧ e1 = .d (.nd (.exc a o C fs) ds) ∧ ixF fs n = some i ∧ ds[i]? = some y ∧ Φ (.d y) s1)
    (hb : attributeBase e n X.env (eval e X.env) = eval e X.env := by rfl) : JE Y F (.Attribute e n pos) s Φ := by
  obtain ⟨oe, pn, rfl, hz, hf⟩ := hY.ex
  refine je_of (pe_xf T hno hz hf (pe_sem _ e) hb) fun as G H σ Q c k => h as G H σ _ c fun v as1 G1 H1 e1 s1 c1 x1 ve ⟨d, fs, ds, i, y, eo, ee, hi, hy, q⟩ => ?_
  subst ee
  cases ve with
  | @nd b vs _ _ nd rs =>
    obtain ⟨e1, e2, e3⟩ := nd
    subst e1
    obtain ⟨v2, hv, rv⟩ := rs.get hy
    exact ⟨rfl, rfl, d, _, v2, eo, c1.sub _ _ (e3 d eo), lk_ix hi hv, k v2 as1 G1 H1 (.d y) s1 c1 x1 rv q⟩
end
end DL
/-! ### [elt for x in iter if c0], pure -/
namespace DL
open PySem PySem.Spec PyProof.Rows L2
variable {X : Cx} {F : Fr} {s : S}
section
variable {elt iter c0 : Expr} {scope : Scope} {own : List (Str × Nat)} {pos p : Pos} {x : Str} {j B : Nat} {Φ : E → S → Prop}
/-- what the block asks: its test, its element -/
def LcT (X : Cx) (F : Fr) (elt c0 : Expr) (scope : Scope) (vs : List Nat) (j : Nat) (s : S) (n : Nat) (it : Nat → E → Prop) (f : Nat → D) (g : Nat → Bool) : Prop :=
  ∀ i v acc, i < n → it i v → ∀ Y, IsBlk X scope Y → (JT Y F c0 (s.blk vs acc j v) fun b s3 => b = g i ∧ s3 = s.blk vs acc j v) ∧ (g i = true → JE Y F elt (s.blk vs acc j v) fun y s3 => y = .d (f i) ∧ s3 = s.blk vs acc j v)
theorem lc_pureT (hj : j ∈ own.map (·.2)) {n : Nat} {it : Nat → E → Prop} {s1 : S} {f : Nat → D} {g : Nat → Bool} (hn : n ≤ 16000000) (ht : LcT X F elt c0 scope (own.map (·.2)) j s1 n it f g) :
    let In : Nat → List E → S → Prop := fun i acc s' => acc = (((List.range i).filter g).map f).map .d ∧ s' = (s1.wipe (own.map (·.2))).push .lst acc
    In 0 [] ((s1.wipe (own.map (·.2))).push .lst []) ∧
      (∀ i v acc s', i < n → it i v → In i acc s' → nth s'.ce s1.ce.length = some (.nd .lst acc) ∧ ∀ Y, IsBlk X scope Y → JTs Y F [c0] (s'.set j v) fun b s2 =>
        if b = true then ∀ Y2, IsBlk X scope Y2 → JE Y2 F elt s2 fun y s3 => nth s3.ce s1.ce.length = some (.nd .lst acc) ∧ acc.length < sizeLine ∧ In (i + 1) (acc ++ [y]) ((s3.put s1.ce.length .lst (acc ++ [y])).wipe (own.map (·.2)))
        else In (i + 1) acc (s2.wipe (own.map (·.2)))) := by
  intro In
  refine ⟨⟨rfl, rfl⟩, ?_⟩
  rintro i v acc s' hi hv ⟨rfl, rfl⟩
  generalize hL : (((List.range i).filter g).map f) = L
  have hl : L.length ≤ i := by
    rw [← hL, List.length_map]
    exact Nat.le_trans (List.length_filter_le _ _) (by simp)
  have hnth : nth ((s1.wipe (own.map (·.2))).push .lst (L.map .d)).ce s1.ce.length = some (.nd .lst (L.map .d)) := by
    rw [nth_eq]
    show (s1.ce ++ [Cell.nd .lst _])[s1.ce.length]? = _
    rw [List.getElem?_append_right (Nat.le_refl _)]
    simp
  refine ⟨hnth, fun Y hY => ?_⟩
  have t1 := (ht i v (L.map .d) hi hv Y hY).1
  show JT Y F c0 (s1.blk (own.map (·.2)) (L.map .d) j v) _
  refine fun as G H σ Q c k => t1 as G H σ Q c fun b as' G' H' s' c' x ⟨e1, e2⟩ => k b as' G' H' s' c' x ?_
  subst e1 e2
  have er : (List.range (i + 1)).filter g = (List.range i).filter g ++ if g i = true then [i] else [] := by
    rw [List.range_succ, List.filter_append, List.filter_cons, List.filter_nil]
  cases hg : g i with
  | true =>
    refine L2.iteT fun Y2 hY2 => ((ht i v (L.map .d) hi hv Y2 hY2).2 hg).mono fun y s3 ⟨e1, e2⟩ => ?_
    subst e1 e2
    refine ⟨hnth, by rw [List.length_map, sizeLine_eq]; omega, ?_, ?_⟩
    · rw [er, hg, if_pos rfl, List.map_append, hL, List.map_append]
      rfl
    · have hput : (s1.blk (own.map (·.2)) (L.map .d) j v).put s1.ce.length .lst (L.map .d ++ [.d (f i)]) = ((s1.wipe (own.map (·.2))).push .lst (L.map .d ++ [.d (f i)])).set j v := by
        show (⟨_, setN (s1.ce ++ [Cell.nd .lst _]) s1.ce.length _, _⟩ : S) = ⟨_, s1.ce ++ [_], _⟩
        rw [setN_eq, List.set_append_right _ _ (Nat.le_refl _)]
        simp
        exact ⟨rfl, rfl⟩
      rw [hput, set_wipe hj]
      show ((s1.wipe _).wipe _).push .lst _ = _
      rw [wipe_wipe]
  | false =>
    refine L2.iteF ⟨?_, ?_⟩
    · rw [er, hg, if_neg (by decide), List.append_nil, hL]
    · show (((s1.wipe _).push .lst _).set j v).wipe _ = _
      rw [set_wipe hj]
      show ((s1.wipe _).wipe _).push .lst _ = _
      rw [wipe_wipe]
/-- .. frozen -/
theorem je_lcPT (bx : Bx X B) (ok : BlkOk X.N X.env.scope scope own) (hj : j ∈ own.map (·.2)) (hn : ∀ Y, IsBlk X scope Y → NmW Y j x)
    (h : JI X F (.Name x p) iter s fun n it s1 => s1 = s ∧ n ≤ 16000000 ∧ ∃ (f : Nat → D) (g : Nat → Bool), LcT X F elt c0 scope (own.map (·.2)) j s n it f g ∧ Φ (.d (.nd .lst (((List.range n).filter g).map f))) s)
    (hs : ∀ x, foldedSetIterable iter X.env x = pure x := by intro _; rfl) : JE X F (.ListComp elt [⟨.Name x p, iter, [c0], 0⟩] scope pos) s Φ := by
  refine je_pop (kd := .lst) (je_lc bx ok hj hn (fun as G H σ R c k => h as G H σ R c fun J as1 G1 H1 s1 n it c1 x1 okJ ⟨q1, q2, f, g, q3, q4⟩ => ?_) hs)
  subst q1
  refine k J as1 G1 H1 s1 n it c1 x1 okJ ⟨_, (lc_pureT hj q2 q3).1, (lc_pureT hj q2 q3).2, ?_⟩
  rintro acc s' ⟨rfl, rfl⟩
  exact ⟨_, rfl, rfl, q4⟩
/-- name = [..] on one line -/
theorem js_setLcPT {i : Nat} {y : Str} {py spos : Pos} {P : Po} (bx : Bx X B) (ny : NmW X i y) (ly : X.env.scope.names.lookup y = some .local) (hsw : swapsWith (.ListComp elt [⟨.Name x p, iter, [c0], 0⟩] scope pos) (some (.Name y py)) spos.line X.env = pure true)
    (ok : BlkOk X.N X.env.scope scope own) (hj : j ∈ own.map (·.2)) (hn : ∀ Y, IsBlk X scope Y → NmW Y j x)
    (h : JI X F (.Name x p) iter s fun n it s1 => s1 = s ∧ n ≤ 16000000 ∧ ∃ (f : Nat → D) (g : Nat → Bool), LcT X F elt c0 scope (own.map (·.2)) j s n it f g ∧ P.nx (s.set i (.d (.nd .lst (((List.range n).filter g).map f)))))
    (hs : ∀ x, foldedSetIterable iter X.env x = pure x := by intro _; rfl) : JS X F (.Assign [.Name y py] (.ListComp elt [⟨.Name x p, iter, [c0], 0⟩] scope pos) spos) s P := fun as G H σ D c k =>
  PS.sem (ps_setLc bx.calm bx.nd ny.nm ly hsw (pi_sem X _ iter) ok (pg_B hn) pts_B pe_B hs) (lc_read (Φ := fun e1 s1 => ∃ ds, e1 = .r s.ce.length ∧ s1 = s.push .lst (ds.map .d) ∧ P.nx (s.set i (.d (.nd .lst ds)))) hj
    (fun as G H σ R c k => h as G H σ R c fun J as1 G1 H1 s1 n it c1 x1 okJ ⟨q1, q2, f, g, q3, q4⟩ => by
      subst q1
      refine k J as1 G1 H1 s1 n it c1 x1 okJ ⟨_, (lc_pureT hj q2 q3).1, (lc_pureT hj q2 q3).2, ?_⟩
      rintro acc s' ⟨rfl, rfl⟩
      exact ⟨_, rfl, rfl, q4⟩) as G H σ _ c fun v as1 G1 H1 e1 s1 c1 x1 ve ⟨ds, q1, q2, q3⟩ => by
    subst q1 q2
    obtain ⟨G2, c2, sg, rep⟩ := c.popFrz c1 x1
    obtain ⟨q, hq, rfl⟩ := ve
    exact k.nx as G2 H1 _ _ (c2.set (i := i) (e := .d (.nd .lst ds)) (rep q hq)) (x1.sub.trans sg) q3)
end
end DL
/-! ### == of lists and tuples of data -/
namespace DL
open PySem PySem.Spec PyProof.Rows L2
variable {X : Cx} {F : Fr} {s : S}
mutual
def pyD : D → PyData
  | .non => .none
  | .bl b => .bool b
  | .int i => .int i
  | .str x => .str x
  | .nd .lst ds => .list (pyDs ds)
  | .nd .tup ds => .tuple (pyDs ds)
  | .nd (.dct _) _ => .none
  | .nd (.ins _ _) _ => .none
  | .nd (.exc _ _ _ _) _ => .none
def pyDs : List D → List PyData
  | [] => []
  | d :: ds => pyD d :: pyDs ds
end
mutual
/-- lists, tuples, texts that are not too long, numbers -/
def flD : Nat → D → Bool
  | _, .non => true
  | _, .bl _ => true
  | _, .int _ => true
  | _, .str x => PyData.strOk x
  | 0, .nd _ _ => false
  | n + 1, .nd .lst ds => flDs n ds
  | n + 1, .nd .tup ds => flDs n ds
  | _ + 1, .nd (.dct _) _ => false
  | _ + 1, .nd (.ins _ _) _ => false
  | _ + 1, .nd (.exc _ _ _ _) _ => false
def flDs : Nat → List D → Bool
  | _, [] => true
  | n, d :: ds => flD n d && flDs n ds
end
mutual
theorem dp_of {K : PySem.W.Frag} {G H : Hp} (sg : Same G H) : ∀ (n : Nat) (d : D) (v : V), Rep K G v d → flD n d = true → L2.Dp K H v (pyD d)
  | _, .non, _, .non, _ => .non
  | _, .bl _, _, .bl b, _ => .bl b
  | _, .int _, _, .int i, _ => .int i
  | _, .str _, _, .str x, _ => .str x
  | n + 1, .nd .lst ds, _, .nd m r, f => .lst (sg.seq m) (dps_of sg n ds _ r f)
  | n + 1, .nd .tup ds, _, .nd m r, f => .tup (SqT.mono sg m) (dps_of sg n ds _ r f)
  | n, .nd (.dct _) _, _, _, f => by cases n <;> cases f
  | n, .nd (.ins _ _) _, _, _, f => by cases n <;> cases f
  | n, .nd (.exc _ _ _ _) _, _, _, f => by cases n <;> cases f
  | 0, .nd .lst _, _, _, f => by cases f
  | 0, .nd .tup _, _, _, f => by cases f
theorem dps_of {K : PySem.W.Frag} {G H : Hp} (sg : Same G H) : ∀ (n : Nat) (ds : List D) (vs : List V), Reps K G vs ds → flDs n ds = true → L2.DpAll K H vs (pyDs ds)
  | _, [], _, .nil, _ => .nil
  | n, d :: ds, _, .cons r t, f => by
    have f : (flD n d && flDs n ds) = true := f
    rw [Bool.and_eq_true] at f
    exact .cons (dp_of sg n d _ r f.1) (dps_of sg n ds _ t f.2)
end
mutual
theorem lay_of : ∀ (n : Nat) (d : D), flD n d = true → PyData.canLay0 (pyD d) = true ∧ PyData.depth (pyD d) ≤ n
  | _, .non, _ => ⟨by simp [pyD, PyData.canLay0], by simp [pyD, PyData.depth]⟩
  | _, .bl _, _ => ⟨by simp [pyD, PyData.canLay0], by simp [pyD, PyData.depth]⟩
  | _, .int _, _ => ⟨by simp [pyD, PyData.canLay0], by simp [pyD, PyData.depth]⟩
  | n, .str x, h => by
    have h : PyData.strOk x = true := by cases n <;> exact h
    exact ⟨by simp [pyD, PyData.canLay0, h], by simp [pyD, PyData.depth]⟩
  | n + 1, .nd .lst ds, h => by
    obtain ⟨a, b⟩ := lays_of n ds h
    exact ⟨by simp [pyD, PyData.canLay0, a], by simp [pyD, PyData.depth, b]⟩
  | n + 1, .nd .tup ds, h => by
    obtain ⟨a, b⟩ := lays_of n ds h
    exact ⟨by simp [pyD, PyData.canLay0, a], by simp [pyD, PyData.depth, b]⟩
  | n, .nd (.dct _) _, f => by cases n <;> cases f
  | n, .nd (.ins _ _) _, f => by cases n <;> cases f
  | n, .nd (.exc _ _ _ _) _, f => by cases n <;> cases f
  | 0, .nd .lst _, f => by cases f
  | 0, .nd .tup _, f => by cases f
theorem lays_of : ∀ (n : Nat) (ds : List D), flDs n ds = true → PyData.canLayAll0 (pyDs ds) = true ∧ PyData.depthAll (pyDs ds) ≤ n
  | _, [], _ => ⟨by simp [pyDs, PyData.canLayAll0], by simp [pyDs, PyData.depthAll]⟩
  | n, d :: ds, f => by
    have f : (flD n d && flDs n ds) = true := f
    rw [Bool.and_eq_true] at f
    obtain ⟨a1, b1⟩ := lay_of n d f.1
    obtain ⟨a2, b2⟩ := lays_of n ds f.2
    exact ⟨by simp [pyDs, PyData.canLayAll0, a1, a2], by simp [pyDs, PyData.depthAll]; omega⟩
end
theorem shaped_of {n : Nat} {d : D} (h : flD n d = true) (hn : n ≤ 64) : SeqAt.shaped (pyD d) = true := by
  obtain ⟨a, b⟩ := lay_of n d h
  unfold SeqAt.shaped
  rw [a, decide_eq_true (by omega)]
  rfl
/-- a node as data -/
theorem Cz.dpn {as : List Addr} {G H : Hp} {σ : L2.St} (c : Cz X F as G H σ s) {v : V} {e : E} {n : Nat} {k : Kd} {ds : List D} (ve : VE X.K G as v e) (h : s.node e = some (k, ds.map .d)) (f : flD n (.nd k ds) = true) : L2.Dp X.K H v (pyD (.nd k ds)) := by
  obtain ⟨a, vs, rfl, nd, ves⟩ := c.node ve h
  cases n with
  | zero => cases f
  | succ n =>
    cases k with
    | lst => exact .lst nd (dps_of c.sub n ds vs ves.reps f)
    | tup => exact .tup nd (dps_of c.sub n ds vs ves.reps f)
    | dct ks => cases f
    | ins C fs => cases f
    | exc a d C fs => cases f
theorem jr_eqN {B n : Nat} {e1 e2 : E} {k1 k2 : Kd} {ds1 ds2 : List D} {Φ : E → S → Prop} (bx : Bx X B) (h1 : s.node e1 = some (k1, ds1.map .d)) (h2 : s.node e2 = some (k2, ds2.map .d)) (f1 : flD n (.nd k1 ds1) = true) (f2 : flD n (.nd k2 ds2) = true) (hn : n ≤ 64)
    (q : Φ (.d (.bl (PyData.eqv (pyD (.nd k1 ds1)) (pyD (.nd k2 ds2))))) s) : JR X F (compareOp .Eq) e1 e2 s Φ :=
  jr_of (op_eqD bx.room.units) fun as G H σ v w Q c v1 v2 k => ⟨_, _, c.dpn v1 h1 f1, c.dpn v2 h2 f2, shaped_of f1 hn, shaped_of f2 hn, k _ as G H _ s c (Ext.refl _ _) (Rep.bl _) q⟩
theorem jr_neN {B n : Nat} {e1 e2 : E} {k1 k2 : Kd} {ds1 ds2 : List D} {Φ : E → S → Prop} (bx : Bx X B) (h1 : s.node e1 = some (k1, ds1.map .d)) (h2 : s.node e2 = some (k2, ds2.map .d)) (f1 : flD n (.nd k1 ds1) = true) (f2 : flD n (.nd k2 ds2) = true) (hn : n ≤ 64)
    (q : Φ (.d (.bl (!PyData.eqv (pyD (.nd k1 ds1)) (pyD (.nd k2 ds2))))) s) : JR X F (compareOp .NotEq) e1 e2 s Φ :=
  jr_of (op_neD bx.room.units) fun as G H σ v w Q c v1 v2 k => ⟨_, _, c.dpn v1 h1 f1, c.dpn v2 h2 f2, shaped_of f1 hn, shaped_of f2 hn, k _ as G H _ s c (Ext.refl _ _) (Rep.bl _) q⟩
theorem eqv_txs : ∀ (xs ys : List Str), PyData.eqvAll (pyDs (xs.map .str)) (pyDs (ys.map .str)) = decide (xs = ys)
  | [], [] => rfl
  | [], _ :: _ => rfl
  | _ :: _, [] => rfl
  | x :: xs, y :: ys => by
    show ((x == y) && PyData.eqvAll (pyDs (xs.map .str)) (pyDs (ys.map .str))) = _
    rw [eqv_txs xs ys]
    by_cases h1 : x = y
    · subst h1
      by_cases h2 : xs = ys
      · subst h2; simp
      · simp [h2]
    · simp [h1]
theorem fl_txs {n : Nat} : ∀ {xs : List Str}, (∀ x ∈ xs, PyData.strOk x = true) → flDs n (xs.map .str) = true
  | [], _ => by cases n <;> rfl
  | x :: xs, h => by
    show (flD n (.str x) && flDs n (xs.map .str)) = true
    rw [fl_txs fun y hy => h y (List.mem_cons_of_mem _ hy), Bool.and_true]
    cases n <;> exact h x List.mem_cons_self
end DL
/-! ### what is to be looked up of a class with one field -/
namespace DL
open PySem PySem.Spec PyProof.Rows L2
theorem sup_mk {P : Program} {K : PySem.W.Frag} {C : Addr} {fl : Str} {nm q : Str} {N : Addr} {bs bm : List Value} {sn : List Str} {sub : List Value} {ab : Bool} {col : Option Bool} {dd : Option Addr} {k0 k1 k2 k3 k5 : Option Value} {cd : ClassData}
    {f cc cda : Addr} {params : Arguments} {scope : Scope} {x qual : Str} {kV dc pm ct oc : Value} {an od : Option Addr} {osl : Array (Option Value)} {p0 p1 p2 p3 p4 p5 q1 q2 q3 q4 : Pos}
    {cl cl2 : Value} {od2 od3 : Option Addr} {vs : Array Value} {sl sl2 : Array (Option Value)}
    (s1 : K.lookup C = some (excClassObj nm q C N bs bm true sn sub ab col dd k0 k1 k2 k3 k5 "ValueError.__new__")) (s2 : PySem.HandSPX.refsVE bm = true) (s3 : PySem.W.findIn K (.ref C) "__setattr__" = some (some (.builtin "object.__setattr__")))
    (s4 : PySem.W.subIn K (.ref C) (.type "BaseException") = some true) (s5 : PySem.W.typeIn K (.ref C) = some (.type "type")) (s6 : PySem.W.keepIn K (.ref C) = true)
    (s7 : PySem.W.clsIn K C = some cd) (s8 : PySem.W.mroIn K C (.ref C) = some true) (s9 : PySem.W.subIn K (.ref C) (.type "ValueError") = some true) (s10 : PySem.W.ks_superIn K C C "__init__" = some (some (.builtin "ValueError.__init__"))) (s11 : PySem.W.nsIn K PySem.cStatics "thirdparty.any" = some none)
    (s12 : (P.main.scope.names.lookup ("super" : Str)).isSome = false)
    (u1 : PySem.W.findIn K (.ref C) "__init__" = some (some (.ref f))) (u2 : PySem.W.typeIn K (.ref f) = some (.type "function")) (u3 : K.lookup f = some ⟨oc, od, .func (supFn qual params [supCall p0 p1 p2 p4 p5 [.Name x p3], keepF fl x q1 q2 q3 q4] scope kV dc pm an cda ct cc), osl⟩) (u4 : PySem.W.codeIn K (.ref cda) qual = true)
    (t1 : K.lookup cda = some ⟨cl, od2, .fields vs, sl⟩) (t2 : (match (vs[2]? : Option Value) with | some (Value.str file _) => (P.main.file : Str) == file | _ => false) = true)
    (t4 : K.lookup cc = some ⟨cl2, od3, .cell (some (.ref C)), sl2⟩) (t5 : (match (params.posonlyargs ++ params.args).head? with | some ar => ar.arg == ("self" : Str) | none => false) = true)
    (t7 : ∀ x ∈ scope.names, x.2 ≠ .cell) (t8 : scope.names.lookup ("super" : Str) = some .globalImplicit) (t9 : scope.names.lookup ("__class__" : Str) = some .free) (t10 : ∀ y ∈ (["self", x] : List Str), scope.names.lookup y = some .local) (t11 : scope.kind = .function) (t12 : scope.isCoroutine = false) (t13 : scope.isGenerator = false)
    (u5 : ∀ s v u, BindsTo s (supFn qual params [supCall p0 p1 p2 p4 p5 [.Name x p3], keepF fl x q1 q2 q3 q4] scope kV dc pm an cda ct cc) ⟨[v, u], []⟩ [("self", v), (x, u)]) (u6 : SupEv p0 p1 p2 p4 [.Name x p3]) (u7 : x ≠ "self") (u8 : (x == ("__debug__" : Str)) = false) (hf : PySem.W.findIn K (.ref C) fl = some none) : SupC1 P K C fl := by
  refine ⟨⟨⟨⟨nm, q, N, bs, bm, sn, sub, ab, col, dd, k0, k1, k2, k3, k5, s1, s2⟩, s3, s4, s5, s6⟩, ⟨_, s7⟩, s8, s9, s10, s11, s12⟩, ⟨f, cc, cda, params, scope, x, qual, kV, dc, pm, ct, oc, an, od, osl, p0, p1, p2, p3, p4, p5, q1, q2, q3, q4, ⟨?_, ⟨_, _, _, t4⟩, ?_, t7, t8, t9, t10, t11, t12, t13⟩, u1, u2, u3, u4, u5, u6, u7, u8⟩, hf⟩
  · cases e : vs[2]? with
    | none => rw [e] at t2; cases t2
    | some v =>
      rw [e] at t2
      cases v with
      | str file tf => exact ⟨_, _, vs, _, file, tf, t1, e, t2⟩
      | _ => cases t2
  · cases e : (params.posonlyargs ++ params.args).head? with
    | none => rw [e] at t5; cases t5
    | some ar => rw [e] at t5; exact ⟨ar, rfl, by simpa using t5⟩
theorem xf_mk {K : PySem.W.Frag} {C : Addr} (x1 : PySem.W.findIn K (.ref C) "__getattribute__" = some (some (.builtin "BaseException.__getattribute__"))) (x2 : PySem.W.findIn K (.ref C) "__getattr__" = some none) (x3 : PySem.W.subIn K (.ref C) (.type "BaseException") = some true) (x4 : PySem.W.hasDictIn K C = true) : XfC K C := ⟨x1, x2, x3, x4⟩
end DL
/-! ### try with several `except C as e` clauses -/
namespace DL
open PySem PySem.Spec PyProof.Rows L2
abbrev ATS := Addr → Value → Option Addr → TS
/-- behind a suite its name is gone -/
def exA (i : Nat) (D : Ends) : Ends := { nx := fun u v => D.nx (u.set i none) v, rt := D.rt, bk := fun u v => D.bk (u.set i none) v, ct := fun u v => D.ct (u.set i none) v }
/-- what the clauses wish of an exception, one after the other -/
def wAM (K : PySem.W.Frag) (Wo : WX) (D : Ends) : List (Value × Nat × ATS) → WX
  | [] => Wo
  | (c, i, ts) :: r => fun cls d u v => ∃ b, PySem.W.exmOne K cls c = some b ∧ (b = true → ∀ x, v x = none → ts x cls d (exA i D) (u.set i (some (.ref x))) v) ∧ (b = false → wAM K Wo D r cls d u v)
inductive HdA (X : Cx) : List ExceptHandler → List (Value × Nat × ATS) → Prop
  | nil : HdA X [] []
  | cons {z n : Str} {c : Value} {i : Nat} {ts : ATS} {t0 : Stmt} {ss : List Stmt} {p1 p2 : Pos} {hs : List ExceptHandler} {l : List (Value × Nat × ATS)} (nm : Names X z c) (sl : X.N[i]? = some n) (lo : X.env.kindOf n = some .local)
      (su : ∀ (x : Addr) (o : Obj) (cls : Value) (d : Option Addr) (q : List (Addr × Obj)), Zc cls d o → (∃ w, o.data = .fields w) → PSs (X.suite x ((x, o) :: q)) (t0 :: ss) (ts x cls d)) (r : HdA X hs l) :
      HdA X (.ExceptHandler (some (.Name z p1)) (some n) (t0 :: ss) p2 :: hs) ((c, i, ts) :: l)
section
variable {X : Cx} {body : List Stmt} {h0 : ExceptHandler} {hs : List ExceptHandler} {l : List (Value × Nat × ATS)} {pos : Pos} {tb : WX → TS} {Wo : WX}
theorem ps_try_asM (top : XTop X) (nd : X.N.Nodup) (tk : Takes X Wo)
    (hb : ∀ (W : WX) (q : List (Addr × Obj)) (xe : Value → Shared → Prop), Takes (X.tr q xe) W → PassesOwn (model X.prog X.w) X.A X.env xe → PSs (X.tr q xe) body (tb W)) (hh : HdA X (h0 :: hs) l) :
    PS X (.Try body (h0 :: hs) [] [] pos) (fun D u v => tb (wAM X.K Wo D l) D u v) := by
  obtain ⟨stk, frm⟩ := top
  constructor
  intro pins s u v D J0 w0
  have okX := J0.ok
  have frs0 : X.A.frames = some (X.env :: X.outer) := okX.frames.trans (by rw [stk])
  refine wpAny_Try_except (wpAny_mono ((hb (wAM X.K Wo D l) (X.pn ++ pins) (fun e sA => wpAny (model X.prog X.w) X.A (noteFrame e X.env)
    (fun _ sB => wpAny (model X.prog X.w) X.A (setFlight e none) (fun _ sC => wpAny (model X.prog X.w) X.A (handleBy e X.env (h0 :: hs)) (SP X pins D) X.xe sC) X.xe sB) X.xe sA)
    (fun y sY seen => ?_) PassesOwn.looking).run [] s u v D (J0.toTry _) w0) (fun fl sE done => ?_) (fun e sE he => he))
  · obtain ⟨ad, B, sI, pp, u', v', cls, d, rfl, JT, nb, up, sky, na, os, ag, wish⟩ := seen
    have JI : Inv X pins u' v' sI := JT.ofTry okX
    rw [show (X.tr (X.pn ++ pins) _).stack = X.env :: X.outer from stk] at sky
    refine Sky.land Zc.steady frs0 frm sky fun hA flA upA => ?_
    have JA : Inv X pins u' v' { sY with heap := hA } := JI.landed nb flA.1 (up.trans upA) os ag
    obtain ⟨oA, wA, eA, zA, dA⟩ := flA.there
    have apart : ad ∉ frs (X.env :: X.outer) := fun hm => by
      obtain ⟨_, o2, e2, no⟩ := flA.2.2.1.mem hm
      rw [eA] at e2
      cases e2
      exact no _ dA
    have nLoc : ad ≠ X.env.locals := fun z => apart (List.mem_filterMap.mpr ⟨X.env, List.mem_cons_self, frm.trans (congrArg some z.symm)⟩)
    have nFs : ad ∉ X.fs := fun hm => by
      obtain ⟨en, hen, q⟩ := List.mem_filterMap.mp hm
      exact apart (List.mem_filterMap.mpr ⟨en, List.mem_cons_of_mem _ hen, q⟩)
    have SA := JA.suite eA dA na nLoc nFs
    have loop : ∀ {hs2 : List ExceptHandler} {l2 : List (Value × Nat × ATS)}, HdA X hs2 l2 → wAM X.K Wo D l2 cls d u' v' → wpAny (model X.prog X.w) X.A (handleBy (.ref ad) X.env hs2) (SP X pins D) X.xe { sY with heap := hA } := by
      intro hs2 l2 hk
      induction hk with
      | nil =>
        intro wish
        obtain ⟨_, _, _, oe, ws, T, oT, _, he, _, hd, h1, _⟩ := id flA
        refine wpAny_handleBy_nil ?_
        unfold PySem.passOn
        refine wpAny_bind (wpAny_field he hd h1 ?_)
        rw [if_neg (show ¬ ((Value.ref T == Value.none) = true) from by simp)]
        have out : wpAny (model X.prog X.w) X.A (setFlight (.ref ad) X.env.frame) (fun _ sO => wpAny (model X.prog X.w) X.A (throw (.ref ad) : Sem Flow) (SP X pins D) X.xe sO) X.xe { sY with heap := hA } := by
          rw [frm]
          refine HandSPX.setFlight_upZ flA fun hB skB upB => wpAny_throw (tk _ _ ⟨ad, B, sI, pins, u', v', cls, d, rfl, JI, nb, (up.trans upA).trans upB, .inr (.inr ?_), na, os, ag, wish⟩)
          rw [stk]
          exact skB
        first
          | exact wpAny_bind (wpAny_pure (wpAny_bind out))
          | exact wpAny_bind out
      | @cons z n c i ts t0 ss p1 p2 hs3 l3 nm sl lo su r ih =>
        rintro ⟨b, hb1, yes, no⟩
        have looksT : PySem.W.Looks (model X.prog X.w) hA (typeOf (.ref ad)) cls := fun A Q E s2 k q => wpAny_typeOf_ref (k _ _ eA) (by rw [zA.1]; exact q)
        have looksE := PySem.W.exm_one (M := model X.prog X.w) JA.kIn looksT hb1
        have named : ∀ {Q : Value → Shared → Prop} {E : Value → Shared → Prop}, Q c { sY with heap := hA } → wpAny (model X.prog X.w) (X.A.mark (some (.ref ad))) (eval (.Name z p1) X.env) Q E { sY with heap := hA } := by
          intro Q E q
          rcases nm with ⟨hg, hdb, hm | ⟨hm, hv, hn⟩⟩
          · exact ld_glob (X := X.suite ad ((ad, oA) :: (X.pn ++ pins))) SA hg hm q hdb
          · exact ld_blt (X := X.suite ad ((ad, oA) :: (X.pn ++ pins))) SA hg hm hv q hn hdb
        refine wpAny_handleBy_cons (codeAny_handlers_test (named (looksE.here ?_))) (by intro q; cases q)
        cases b with
        | false => exact ih (no rfl)
        | true =>
          refine codeAny_handlers_suite_as (HandSPX.lands_againZ flA fun hB flB upB => ?_)
          have JB : Inv X pins u' v' { sY with heap := hB } := JI.landed nb flB.1 ((up.trans upA).trans upB) os ag
          obtain ⟨oB, wB, eB, zB, dB⟩ := flB.there
          have SB := JB.suite eB dB na nLoc nFs
          refine store_ok (X := X.suite ad ((ad, oB) :: (X.pn ++ pins))) (v := .ref ad) SB nd sl (Or.inl lo) rfl (fun sF SF => ?_) (.inr lo)
          have fin : ∀ {u6 : L2.St} {v6 : Hp} {s6 : Shared} {Q : Shared → Prop}, Inv (X.suite ad ((ad, oB) :: (X.pn ++ pins))) [] u6 v6 s6 → (∀ s7, Inv X pins (u6.set i none) v6 s7 → Q s7) →
              wpAny (model X.prog X.w) X.A (do bindName X.env n .none; unbindBehindTheSuite X.env n p2) (fun _ s7 => Q s7) X.xe s6 := fun S6 hq => gone_ok (S6.unsuite okX) nd sl lo hq
          refine wpAny_mono ((su ad oB cls d (X.pn ++ pins) zB ⟨_, dB⟩).run [] sF _ v' _ SF (yes rfl ad na)) (fun fl s6 q6 => ?_) (fun _ _ z => False.elim z)
          cases fl with
          | next => obtain ⟨u6, v6, S6, e6⟩ := q6; exact fin S6 fun s7 J7 => ⟨_, _, J7, e6⟩
          | brk => obtain ⟨u6, v6, S6, e6⟩ := q6; exact fin S6 fun s7 J7 => ⟨_, _, J7, e6⟩
          | cont => obtain ⟨u6, v6, S6, e6⟩ := q6; exact fin S6 fun s7 J7 => ⟨_, _, J7, e6⟩
          | ret y => obtain ⟨y6, u6, v6, S6, r6, e6⟩ := q6; exact fin S6 fun s7 J7 => ⟨_, _, _, J7, r6, e6⟩
    exact loop hh wish
  · cases fl with
    | next => obtain ⟨u', v', J', q⟩ := done; exact wpAny_execs_nil ⟨u', v', J'.ofTry okX, q⟩
    | brk => obtain ⟨u', v', J', q⟩ := done; exact ⟨u', v', J'.ofTry okX, q⟩
    | cont => obtain ⟨u', v', J', q⟩ := done; exact ⟨u', v', J'.ofTry okX, q⟩
    | ret y => obtain ⟨y', u', v', J', r, q⟩ := done; exact ⟨y', u', v', J'.ofTry okX, r, q⟩
end
/-- a clause's suite, at large -/
def tsOf (X : Cx) (su : List Stmt) : ATS := fun y cls d D u v => ∀ o q, Zc cls d o → (∃ w, o.data = .fields w) → semSs (X.suite y ((y, o) :: q)) su D u v
inductive HdD (X : Cx) : List ExceptHandler → List (Addr × Nat × List Stmt) → Prop
  | nil : HdD X [] []
  | cons {z n : Str} {C : Addr} {i : Nat} {t0 : Stmt} {ss : List Stmt} {p1 p2 : Pos} {hs : List ExceptHandler} {l : List (Addr × Nat × List Stmt)} (nm : Names X z (.ref C)) (sl : X.N[i]? = some n) (lo : X.env.kindOf n = some .local) (r : HdD X hs l) :
      HdD X (.ExceptHandler (some (.Name z p1)) (some n) (t0 :: ss) p2 :: hs) ((C, i, t0 :: ss) :: l)
abbrev tsL (X : Cx) (l : List (Addr × Nat × List Stmt)) : List (Value × Nat × ATS) := l.map fun t => (.ref t.1, t.2.1, tsOf X t.2.2)
theorem HdD.a {X : Cx} {hs : List ExceptHandler} {l : List (Addr × Nat × List Stmt)} (h : HdD X hs l) : HdA X hs (tsL X l) := by
  induction h with
  | nil => exact .nil
  | cons nm sl lo r ih => exact .cons nm sl lo (fun x o cls d q hz hf => ⟨fun pins st u v D I k => k o q hz hf pins st I⟩) ih
/-- the first clause that hits, its suite does the rest -/
def HitM (X : Cx) (F : Fr) (ar : Nat) (P : Po) : List (Addr × Nat × List Stmt) → Ex → S → Prop
  | [], _, _ => False
  | (C, i, su) :: l, x, s => (PySem.W.exmOne X.K (.ref x.C) (.ref C) = some true ∧ ∀ a o Y, (x.fs ≠ [] → ∃ dd, o = some dd) → IsSu X x.C o a Y → JSs Y F su (s.set i (exE a o x)) (P.su i ar)) ∨ (PySem.W.exmOne X.K (.ref x.C) (.ref C) = some false ∧ HitM X F ar P l x s)
section
variable {X : Cx} {F : Fr} {s : S} {body sts : List Stmt} {h0 : ExceptHandler} {hs : List ExceptHandler} {l : List (Addr × Nat × List Stmt)} {pos : Pos} {P : Po}
theorem js_tryM (top : XTop X) (nd : X.N.Nodup) (hh : HdD X (h0 :: hs) l)
    (h : ∀ (F' : Fr) (q : List (Addr × Obj)) (xe : Value → Shared → Prop), F'.H0 = F.H0 → PassesOwn (model X.prog X.w) X.A X.env xe → TkX (X.tr q xe) F' (HitM X F' s.ar P l) → JSs (X.tr q xe) F' body (s.ar' s.ce.length) (P.ar s.ar)) :
    JS X F (.Try body (h0 :: hs) [] [] pos) s P := by
  intro as G H u D c k
  refine PS.sem (ps_try_asM (tb := fun W D u v => ∀ q xe, Takes (X.tr q xe) W → PassesOwn (model X.prog X.w) X.A X.env xe → semSs (X.tr q xe) body D u v) top nd takes0 (fun W q xe tk po => ⟨fun pins st u v D I r => r q xe tk po pins st I⟩) hh.a) ?_
  intro q xe tk po
  have c0 := c.toG
  have back : ∀ {Y : Cx} {as' : List Addr} {G' H' : Hp} {u' : L2.St} {s' : S}, Y.K = X.K → Cz Y ⟨G, F.H0, as⟩ as' G' H' u' s' → Cz X F as' G' H' u' (s'.ar' s.ar) := fun e c' => c.ofG (Cz.cx (Y := X) e.symm c')
  refine h ⟨G, F.H0, as⟩ q xe rfl po ⟨_, tk, fun as' G' H' u' s' x o c' ex hw => ?_⟩ as G H u D (Cz.cx (X := X) (Y := X.tr q xe) rfl c0) ⟨fun as' G' H' u' s' c' sm r => k.nx as' G' H' u' _ (back (Y := X.tr q xe) rfl c') sm r, fun v as' G' H' u' e' s' c' sm ve r => k.rt v as' G' H' u' e' _ (back (Y := X.tr q xe) rfl c') sm ve r, fun as' G' H' u' s' c' sm r => k.bk as' G' H' u' _ (back (Y := X.tr q xe) rfl c') sm r, fun as' G' H' u' s' c' sm r => k.ct as' G' H' u' _ (back (Y := X.tr q xe) rfl c') sm r⟩
  obtain ⟨vs, el, rs, eo, ed⟩ := ex
  have cX : Cz X ⟨G, F.H0, as⟩ as' G' H' u' s' := Cz.cx (X := X.tr q xe) (Y := X) rfl c'
  have sg : Same G G' := c'.base
  clear hh h tk
  induction l with
  | nil => exact hw.elim
  | cons t l ih =>
    obtain ⟨C, i, su⟩ := t
    rcases hw with ⟨hm, hw⟩ | ⟨hm, hw⟩
    · refine ⟨true, hm, fun _ a na => ?_, fun z => by cases z⟩
      intro oe q2 hz hf
      have ve : VE X.K G' as' (.ref a) (exE a o x) := Rep.nd (k := .exc a o x.C x.fs) ⟨rfl, el, ed⟩ rs
      have gone : ∀ {as3 : List Addr} {G3 H3 : Hp} {u3 : L2.St} {s3 : S}, Cz (X.suite a ((a, oe) :: q2)) ⟨G, F.H0, as⟩ as3 G3 H3 u3 s3 → Cz X F as3 G3 H3 (u3.set i none) ((s3.wipe [i]).ar' s.ar) := fun c3 => back (Y := X) rfl ((Cz.cx (X := X.suite a ((a, oe) :: q2)) (Y := X) rfl c3).wipe [i])
      refine hw a o _ eo ⟨oe, q2, rfl, hz, hf⟩ as' G' H' _ _ (Cz.cx (X := X) (Y := X.suite a ((a, oe) :: q2)) rfl (cX.set (i := i) ve)) ⟨fun as3 G3 H3 u3 s3 c3 sm r => k.nx as3 G3 H3 _ _ (gone c3) (sg.trans sm) r, fun v as3 G3 H3 u3 e3 s3 c3 sm ve3 r => k.rt v as3 G3 H3 _ e3 _ (gone c3) (sg.trans sm) ve3 r, fun as3 G3 H3 u3 s3 c3 sm r => k.bk as3 G3 H3 _ _ (gone c3) (sg.trans sm) r, fun as3 G3 H3 u3 s3 c3 sm r => k.ct as3 G3 H3 _ _ (gone c3) (sg.trans sm) r⟩
    · exact ⟨false, hm, fun z => (Bool.noConfusion z), fun _ => ih hw⟩
theorem jss_tryM (top : XTop X) (nd : X.N.Nodup) (hh : HdD X (h0 :: hs) l)
    (h : ∀ (F' : Fr) (q : List (Addr × Obj)) (xe : Value → Shared → Prop), F'.H0 = F.H0 → PassesOwn (model X.prog X.w) X.A X.env xe → TkX (X.tr q xe) F' (HitM X F' s.ar { P with nx := fun s1 => JSs X F sts s1 P } l) → JSs (X.tr q xe) F' body (s.ar' s.ce.length) (Po.ar { P with nx := fun s1 => JSs X F sts s1 P } s.ar)) :
    JSs X F (.Try body (h0 :: hs) [] [] pos :: sts) s P := jss_cons (js_tryM top nd hh h)
end
end DL
/-! ### a constructor that raises -/
namespace DL
open PySem PySem.Spec PyProof.Rows L2
/-- an __init__ that raises, whatever it is asked; its instance has no field yet -/
def spXI (K : PySem.W.Frag) (C : Addr) (R : RX) : Sp := fun vs H _ E => ∃ a dx rest G ds, vs = .ref a :: rest ∧ Same G H ∧ G a = none ∧ H a = some (.ins C dx []) ∧ Reps K G rest ds ∧ R ds fun x => ∀ o G' H', (∀ b u, b ≠ a → H b = some u → H' b = some u) → Same G G' → Same G' H' → (∀ b, G b = none → H b ≠ none → G' b = none) → ExAt K G' o x → E (.ref x.C) o H'
section
variable {P : Program} {w : World} {K : PySem.W.Frag} {mg : Str → Option Value} {base : Heap} {x qual : Str} {st : Stmt} {f C : Addr} {fd : FuncData} {N ps : List Str} {k : Nat}
theorem fn_XI {R : RX} (F : Fun K x qual st f fd) (S : FnScope N ps (defScope st)) (hlen : ∀ ds post, R ds post → ds.length + 1 = ps.length)
    (body : ∀ (X : Cx) (F : Fr) (ds : List D) (post : Ex → Prop), XIs X P w K mg base N (defScope st) k → (∀ y, X.fn y = true) → X.H_0 = F.H0 → TkX X F (fun x _ => post x) → R ds post → JSs X F (defBody st) (entry N (.r 0 :: ds.map .d) [.nd (.ins C []) []] 1) { nx := fun _ => False, rt := fun _ _ => False }) :
    FnOk P w K mg base (L2.CX P w) (k + 1) f fd ps (spXI K C R) := by
  refine F.okX S (fun vs H Q E h => ?_) fun cdv A outer s H vs Q Ex hr h => ?_
  · obtain ⟨a, dx, rest, G, ds, rfl, _, _, _, r, hR⟩ := h
    rw [List.length_cons, r.length]; exact hlen ds _ hR
  · obtain ⟨a, dx, rest, G, ds, rfl, sg, ga, ha, r, hR⟩ := h
    have ve : VEs K G [a] (.ref a :: rest) (.r 0 :: ds.map .d) := .cons ⟨a, rfl, rfl⟩ (VEs.ofReps r)
    have fin : ∀ {as' : List Addr} {G' H' : Hp} {σ' : L2.St} {s' : DL.S}, Cz (cxOf (L2.CX P w) P w K mg base N qual (defScope st) f cdv A outer s H Ex) ⟨G, H, [a]⟩ as' G' H' σ' s' → ∀ b u, b ≠ a → H b = some u → H' b = some u := fun {as' G' H' σ' s'} c b o n q => c.frame b o q (by simpa using n)
    refine ⟨_, pss_sem _ _, ?_⟩
    refine body _ ⟨G, H, [a]⟩ ds _ ⟨rfl, rfl, rfl, rfl, rfl, rfl, rfl, rfl, S.nd, passes_of rfl, hr⟩ (fun _ => rfl) rfl ⟨_, takes_of rfl rfl rfl rfl, fun as' G' H' σ' s' x o c ex q => q o G' H' (fin c) c.base c.sub c.new ex⟩ hR [a] G H _ _ ?_ ?_
    · refine ⟨sg, Same.refl _, fun _ h _ => h, fun _ _ h _ => h, rfl, List.prefix_refl _, by simp, fun k b kd es h1 h2 => ?_, fun b h => .inl h, fun b h => ?_, fun k kd es h => ?_, fun i e h => slots_entry ve N h, ?_, rfl⟩
      · match k with
        | 0 => cases h1; exact ga
        | k + 1 => cases h1
      · obtain rfl : b = a := by simpa using h
        rw [ha]; simp
      · match k with
        | 0 => cases h; exact ⟨a, [], rfl, ⟨rfl, dx, ha⟩, .nil⟩
        | k + 1 => cases h
      · show (((E.r 0 :: ds.map E.d).map some) ++ List.replicate (N.length - (E.r 0 :: ds.map E.d).length) none).length = (L2.start N (.ref a :: rest)).length
        unfold L2.start
        simp [r.length]
    · exact ⟨fun _ _ _ _ _ _ _ q => q.elim, fun _ _ _ _ _ _ _ _ _ _ q => q.elim, fun _ _ _ _ _ _ _ q => q.elim, fun _ _ _ _ _ _ _ q => q.elim⟩
structure CaMX (P : Program) (w : World) (K : PySem.W.Frag) (mg : Str → Option Value) (base : Heap) (x : Str) (k : Nat) (C : Addr) (R : RX) : Prop where
  mono : MonoX R
  mgC : mg x = some (.ref C)
  ex : ∃ f fd ps, Mk K C f ∧ Binds K fd ps [] ∧ FnOk P w K mg base (L2.CX P w) k f fd ps (spXI K C R)
end
structure CbMX (X : Cx) (x : Str) (k : Nat) (C : Addr) (R : RX) : Prop where
  gl : Gl X x
  mono : MonoX R
  mgC : X.mg x = some (.ref C)
  ex : ∃ f fd ps, Mk X.K C f ∧ Binds X.K fd ps [] ∧ FnOk X.prog X.w X.K X.mg X.base (L2.CX X.prog X.w) k f fd ps (spXI X.K C R)
theorem CaMX.at {X : Cx} {P : Program} {w : World} {K : PySem.W.Frag} {mg : Str → Option Value} {base : Heap} {N : List Str} {sc : Scope} {k j : Nat} {x : Str} {C : Addr} {R : RX} (c : CaMX P w K mg base x j C R) (h : XIs X P w K mg base N sc k)
    (h1 : sc.names.lookup x = some .globalImplicit) : CbMX X x j C R := by
  obtain ⟨e1, e2, e3, e4, e5, _⟩ := id h
  subst e1 e2 e3 e4 e5
  exact ⟨h.gl h1, c.mono, c.mgC, c.ex⟩
section
variable {X : Cx} {F : Fr} {s : S} {pins : List (Addr × Obj)} {σ : L2.St} {H : Hp} {sh : Shared} {us : List Value} {vs : List V} {f C : Addr} {fd : FuncData} {ps : List Str} {sp : Sp} {k B : Nat} {E : XK} {Q : VK} {x : Str} {p pos : Pos} {a : Expr} {es : List Expr} {W : Ex → S → Prop} {Φ : DL.E → S → Prop}
theorem run_makeE (M : Mk X.K C f) (F : FnOk X.prog X.w X.K X.mg X.base (L2.CX X.prog X.w) k f fd ps sp) (hr : Room (k + 1) X.A) (hb : Binds X.K fd ps []) (hx : PassesAt (L2.CX X.prog X.w) X σ E) (I : Inv X pins σ H sh) (r : Vals vs us)
    (h : ∀ y dy, H y = none → H dy = none → dy ≠ y → sp (.ref y :: vs) (upd (upd H dy (.own y)) y (.ins C dy [])) (fun _ _ => False) E) : wpAny (model X.prog X.w) X.A (call (.ref C) us) (EP X pins σ Q) X.xe sh := by
  have hq := h (sh.heap.objs.size + 1) sh.heap.objs.size (I.hok.fresh (Nat.le_succ _)) (I.hok.fresh (Nat.le_refl _)) (Nat.ne_of_lt (Nat.lt_succ_self _))
  have I2 := Inv.made (C := C) I
  have r2 : Vals (V.ref (sh.heap.objs.size + 1) :: vs) (Value.ref (sh.heap.objs.size + 1) :: us) := .cons rfl r
  have hl : (Value.ref (sh.heap.objs.size + 1) :: us ++ []).length = ps.length := by
    rw [List.append_nil, ← r2.length]
    exact F.len _ _ _ _ hq
  have b := hb _ (Value.ref (sh.heap.objs.size + 1) :: us) I2.kIn hl
  rw [List.append_nil] at b
  refine wpAny_call (make_map (f := f) I.kIn M.makes M.init (beq_iff_eq.mp M.fn) (codeAny_mono (F.run _ X.stack _ _ ⟨Value.ref (sh.heap.objs.size + 1) :: us, []⟩ _ _ _ E (hr.make C us []) (I2.env0.make C us []) b r2 hq) fun z s' hz => ?_))
  cases z with
  | error e => exact hx pins _ _ e s' I2 hz
  | ok fl =>
    cases fl with
    | ret u =>
      obtain ⟨_, _, _, _, q3⟩ := I2.after hz
      exact q3.elim
    | next => exact False.elim hz
    | brk => exact False.elim hz
    | cont => exact False.elim hz
/-- C(..) whose __init__ raises -/
theorem je_makeE {R : RX} (tk : TkX X F W) (cb : CbMX X x k C R) (bx : Bx X B) (hB : k + 1 ≤ B) (h : JA X F (a :: es) s fun vs s1 => ∃ ds, dsOf vs = some ds ∧ R ds fun x => W x s1) (hdb : (x == ("__debug__" : Str)) = false := by decide)
    (he : starEach (a :: es) X.env = (false, eval a X.env) :: starEach es X.env := by rfl) (hpl : (backTo pos (starEach es X.env)).any (·.1) = false := by rfl) : JE X F (.Call (.Name x p) (a :: es) [] pos) s Φ := by
  obtain ⟨f, fd, ps, hm, hb, hF⟩ := cb.ex
  obtain ⟨WW, tk, hw⟩ := tk
  intro as G H σ Q c kk pins st I
  refine wpAny_Call_Name_kw (ld_glob I cb.gl cb.mgC ?_ hdb)
  have h3 := h as G H σ (fun vs H2 => ∃ as2 G2 es2 s2, Cz X F as2 G2 H2 σ s2 ∧ Ext as as2 G G2 ∧ VEs X.K G2 as2 vs es2 ∧ ∃ ds, dsOf es2 = some ds ∧ R ds fun x => W x s2) c
    (fun vs as2 G2 H2 es2 s2 c2 x2 ves q => ⟨as2, G2, es2, s2, c2, x2, ves, q⟩) pos pins
  refine PySem.W.callWith_K (h₀ := X.base) I.ok.mod.kin hm.kp (thn (h3 _ I) ?_) he hpl
  rintro us st2 ⟨vs, H2, I2, rvs, as2, G2, es2, s2, c2, x2, ves, ds, e2, hR⟩
  refine ⟨I2.kIn, ?_⟩
  rw [dsOf_eq e2] at ves
  refine run_makeE hm hF (bx.room.mono hB) hb (passAt tk σ) I2 rvs fun y dy ny ndy ney => ⟨y, dy, vs, G2, ds, rfl, fun b u q => ?_, c2.gnone ny, upd_same, ves.reps, cb.mono ds _ _ (fun x hx o G' H' q1 q2 q3 q4 ex => hw as2 G' H' σ s2 x o (c2.call (fun b u q => ?_) q2 q3 fun b g n => ?_) ex hx) hR⟩
  · have := c2.sub b u q
    rw [upd_ne (ne_of_none this ny), upd_ne (ne_of_none this ndy)]
    exact this
  · exact q1 b u (ne_of_none q ny) (by rw [upd_ne (ne_of_none q ny), upd_ne (ne_of_none q ndy)]; exact q)
  · refine q4 b g ?_
    cases e : H2 b with
    | none => exact absurd e n
    | some u => rw [upd_ne (ne_of_none e ny), upd_ne (ne_of_none e ndy), e]; simp
end
end DL
/-! ### del d[k]; == of what is owned; comprehensions whose test writes -/
namespace DL
open PySem PySem.Spec PyProof.Rows L2
section
variable {X : Cx} {F : Fr} {s : S}
theorem ps_ddelZ {o i : Expr} {td ty : TE} {tpos pos : Pos} (ho : PE X o td) (hi : PE X i ty) : PS X (.Delete [.Subscript o i tpos] pos)
    (fun D σ H => td σ H fun x H1 => ty σ H1 fun y H2 => ∃ (a : Addr) (od : Obj) (kvs : List (Key × V)) (k : Key), x = .ref a ∧ y = kV k ∧ H2 a = some (.frz od (.dK kvs)) ∧ (∀ o' u', X.H_0 a ≠ some (.frz o' u')) ∧ (valV kvs k).isSome = true ∧ ∀ od', D.nx σ (upd H2 a (.frz od' (.dK (dropK kvs k))))) := by
  refine ⟨fun pins st σ H D I h => wpAny_Delete (wpAny_deleteEach_cons (wpAny_delete_Subscript (thn (ho.run pins st σ H _ I h) fun u s1 ⟨x, H1, I1, rx, q1⟩ => thn (hi.run pins s1 σ H1 _ I1 q1) fun iv s2 ⟨y, H2, I2, ry, a, od, kvs, k, ex, ey, ha, hn, l, q2⟩ => ?_)))⟩
  subst ex ey
  obtain rfl : u = Value.ref a := rx
  refine d_delItem (kvs := kvs) (I2.unlock ha hn) upd_same ry l fun s3 I3 => ?_
  rw [upd_upd] at I3
  obtain ⟨od', I4⟩ := I3.lock (d := a) upd_same trivial
  rw [upd_upd] at I4
  exact wpAny_deleteEach_nil ⟨σ, _, I4, q2 od'⟩
def dlK (ks : List Key) (k : Key) : List Key := ks.filter fun x => decide (x ≠ k)
def dlV {α : Type} (ks : List Key) (es : List α) (k : Key) : List α := ((ks.zip es).filter fun p => decide (p.1 ≠ k)).map (·.2)
theorem dlK_y {x k : Key} {ks : List Key} (e : x = k) : dlK (x :: ks) k = dlK ks k := List.filter_cons_of_neg (by simp [e])
theorem dlK_n {x k : Key} {ks : List Key} (e : ¬ x = k) : dlK (x :: ks) k = x :: dlK ks k := List.filter_cons_of_pos (by simp [e])
theorem dlV_y {α : Type} {x k : Key} {ks : List Key} {v : α} {vs : List α} (e : x = k) : dlV (x :: ks) (v :: vs) k = dlV ks vs k := congrArg (List.map _) (List.filter_cons_of_neg (by simp [e]))
theorem dlV_n {α : Type} {x k : Key} {ks : List Key} {v : α} {vs : List α} (e : ¬ x = k) : dlV (x :: ks) (v :: vs) k = v :: dlV ks vs k := congrArg (List.map _) (List.filter_cons_of_pos (a := (x, v)) (by simp [e]))
theorem drop_zip {α : Type} {k : Key} : ∀ {ks : List Key} {vs : List α}, ks.length = vs.length → (ks.zip vs).filter (fun p => decide (p.1 ≠ k)) = (dlK ks k).zip (dlV ks vs k)
  | [], _, _ => rfl
  | _ :: _, [], h => by simp at h
  | x :: ks, v :: vs, h => by
    have ih := drop_zip (k := k) (ks := ks) (vs := vs) (by simpa using h)
    rw [List.zip_cons_cons]
    by_cases e : x = k
    · rw [dlK_y e, dlV_y e, List.filter_cons_of_neg (by simp [e]), ih]
    · rw [dlK_n e, dlV_n e, List.filter_cons_of_pos (by simp [e]), ih, List.zip_cons_cons]
theorem dl_len {α : Type} {k : Key} : ∀ {ks : List Key} {vs : List α}, ks.length = vs.length → (dlK ks k).length = (dlV ks vs k).length
  | [], _, _ => rfl
  | _ :: _, [], h => by simp at h
  | x :: ks, v :: vs, h => by
    have ih := dl_len (k := k) (ks := ks) (vs := vs) (by simpa using h)
    by_cases e : x = k
    · rw [dlK_y e, dlV_y e, ih]
    · rw [dlK_n e, dlV_n e, List.length_cons, List.length_cons, ih]
theorem ves_dl {K : PySem.W.Frag} {G : Hp} {as : List Addr} {k : Key} {vs : List V} {es : List E} (h : VEs K G as vs es) : ∀ {ks : List Key}, VEs K G as (dlV ks vs k) (dlV ks es k) := by
  induction h with
  | nil => intro ks; unfold dlV; simp; exact .nil
  | @cons v e vs es r t ih =>
    intro ks
    cases ks with
    | nil => exact .nil
    | cons x ks =>
      have ih := ih (ks := ks)
      unfold dlV at ih ⊢
      rw [List.zip_cons_cons, List.zip_cons_cons, List.filter_cons, List.filter_cons]
      by_cases q : x = k
      · rw [if_neg (by simp [q]), if_neg (by simp [q])]
        exact ih
      · rw [if_pos (by simp [q]), if_pos (by simp [q])]
        exact .cons r ih
theorem val_mem {k : Key} : ∀ {ks : List Key} {vs : List V}, ks.length = vs.length → k ∈ ks → (valV (ks.zip vs) k).isSome = true
  | [], _, _, h => by cases h
  | _ :: _, [], h, _ => by simp at h
  | x :: ks, v :: vs, h, hk => by
    rw [List.zip_cons_cons]
    by_cases e : x = k
    · rw [valV_pos (p := (x, v)) e]; rfl
    · rw [valV_neg (p := (x, v)) e]
      exact val_mem (by simpa using h) ((List.mem_cons.mp hk).resolve_left (Ne.symm e))
/-- del d[k], d owned -/
theorem js_ddel {o i : Expr} {tpos pos : Pos} {P : Po} (hH : X.H_0 = F.H0) (h : JE X F o s fun eo s1 => JE X F i s1 fun ei s2 => ∃ k ks es kk, eo = .r k ∧ keyE ei = some kk ∧ nth s2.ce k = some (.nd (.dct ks) es) ∧ s2.ar ≤ k ∧ kk ∈ ks ∧ P.nx (s2.put k (.dct (dlK ks kk)) (dlV ks es kk))) :
    JS X F (.Delete [.Subscript o i tpos] pos) s P := fun as G H σ D c k => PS.sem (ps_ddelZ (pe_sem X o) (pe_sem X i)) (h as G H σ _ c fun v1 as1 G1 H1 e1 s1 c1 x1 ve1 h1 => h1 as1 G1 H1 σ _ c1 fun v2 as2 G2 H2 e2 s2 c2 x2 ve2 ⟨j, ks, es, kk, q1, q2, q3, q4, q5, q6⟩ => by
  subst q1
  obtain rfl := keyE_v q2 ve2
  obtain ⟨a, ha, rfl⟩ := x2.ve ve1
  rw [nth_eq] at q3
  obtain ⟨a', vs, g1, ⟨g2, g3, od, g4⟩, g5⟩ := c2.cells j _ _ q3
  rw [ha] at g1
  cases g1
  have nA : a ∉ F.A0 := fun z => by
    obtain ⟨l, hl⟩ := List.getElem?_of_mem z
    obtain ⟨l1, e1⟩ := List.getElem?_eq_some_iff.mp (pre_get c2.pre hl)
    obtain ⟨l2, e2⟩ := List.getElem?_eq_some_iff.mp ha
    have same := (List.getElem_inj c2.nd).mp (e1.trans e2.symm)
    have l3 := (List.getElem?_eq_some_iff.mp hl).1
    rw [c2.har] at l3
    omega
  have h0 : F.H0 a = none := (c2.fresh a (List.mem_of_getElem? ha)).resolve_left nA
  refine ⟨a, od, _, kk, rfl, rfl, g4, fun o' u' z => (by rw [hH, h0] at z; cases z), val_mem g2 q5, fun od' => ?_⟩
  rw [show dropK (ks.zip vs) kk = (dlK ks kk).zip (dlV ks vs kk) from drop_zip g2]
  exact k.nx as2 G2 _ σ _ (c2.put (kd := .dct (dlK ks kk)) q3 ha ⟨dl_len g2, g3.sublist List.filter_sublist, od', upd_same⟩ (ves_dl g5)) (x1.trans x2).sub q6)
theorem jss_ddel {o i : Expr} {tpos pos : Pos} {sts : List Stmt} {P : Po} (hH : X.H_0 = F.H0) (h : JE X F o s fun eo s1 => JE X F i s1 fun ei s2 => ∃ k ks es kk, eo = .r k ∧ keyE ei = some kk ∧ nth s2.ce k = some (.nd (.dct ks) es) ∧ s2.ar ≤ k ∧ kk ∈ ks ∧ JSs X F sts (s2.put k (.dct (dlK ks kk)) (dlV ks es kk)) P) :
    JSs X F (.Delete [.Subscript o i tpos] pos :: sts) s P := jss_cons (js_ddel hH h)
/-! views as data for == -/
theorem Cz.dpv {as : List Addr} {G H : Hp} {σ : L2.St} (c : Cz X F as G H σ s) : ∀ (n m : Nat),
    (∀ {v : V} {e : E} {d : D}, VE X.K G as v e → s.vw n e = some d → flD m d = true → L2.Dp X.K H v (pyD d)) ∧
    (∀ {vs : List V} {es : List E} {ds : List D}, VEs X.K G as vs es → vwL (s.vw n) es = some ds → flDs m ds = true → L2.DpAll X.K H vs (pyDs ds)) := by
  have list : ∀ {n m : Nat}, (∀ {v : V} {e : E} {d : D}, VE X.K G as v e → s.vw n e = some d → flD m d = true → L2.Dp X.K H v (pyD d)) → ∀ {vs : List V} {es : List E} {ds : List D}, VEs X.K G as vs es → vwL (s.vw n) es = some ds → flDs m ds = true → L2.DpAll X.K H vs (pyDs ds) := fun {n m} one {vs es ds} h => by
    induction h generalizing ds with
    | nil => intro q _; cases q; exact .nil
    | @cons v e vs es r t ih =>
      intro q f
      unfold vwL at q
      cases q1 : s.vw n e with
      | none => rw [q1] at q; simp at q
      | some d =>
        cases q2 : vwL (s.vw n) es with
        | none => rw [q1, q2] at q; simp at q
        | some ds' =>
          rw [q1, q2] at q
          simp at q
          subst q
          have f : (flD m d && flDs m ds') = true := f
          rw [Bool.and_eq_true] at f
          exact .cons (one r q1 f.1) (ih q2 f.2)
  have one : ∀ n m, ∀ {v : V} {e : E} {d : D}, VE X.K G as v e → s.vw n e = some d → flD m d = true → L2.Dp X.K H v (pyD d) := fun n => by
    induction n with
    | zero =>
      intro m v e d ve q f
      cases e with
      | d x => cases q; exact dp_of c.sub m _ v ve f
      | r k => cases q
    | succ n ih =>
      intro m v e d ve q f
      cases e with
      | d x => cases q; exact dp_of c.sub m _ v ve f
      | r k =>
        obtain ⟨a, ha, rfl⟩ := ve
        have q : (match nth s.ce k with
          | some (.nd kd es) => (vwL (s.vw n) es).map (D.nd kd)
          | _ => none) = some d := q
        cases hc : nth s.ce k with
        | none => rw [hc] at q; cases q
        | some cl =>
          cases cl with
          | gone => rw [hc] at q; cases q
          | nd kd es =>
            rw [hc] at q
            have q : (vwL (s.vw n) es).map (D.nd kd) = some d := q
            rw [nth_eq] at hc
            obtain ⟨a', vs, g1, g2, g3⟩ := c.cells k _ _ hc
            rw [ha] at g1
            cases g1
            cases hv : vwL (s.vw n) es with
            | none => rw [hv] at q; cases q
            | some ds =>
              rw [hv] at q
              cases q
              cases m with
              | zero => cases f
              | succ m =>
                cases kd with
                | lst => exact .lst (show SqL _ _ _ _ from .inl (.inl g2)) (list (ih m) g3 hv f)
                | tup => exact g2.elim
                | dct ks => cases f
                | ins C fs => cases f
                | exc _ _ _ _ => cases f
  exact fun n m => ⟨one n m, list (one n m)⟩
theorem jr_eqW {B n m : Nat} {e1 e2 : E} {d1 d2 : D} {Φ : E → S → Prop} (r : Room B X.A) (h1 : s.vw n e1 = some d1) (h2 : s.vw n e2 = some d2) (f1 : flD m d1 = true) (f2 : flD m d2 = true) (hm : m ≤ 64) (q : Φ (.d (.bl (PyData.eqv (pyD d1) (pyD d2)))) s) : JR X F (compareOp .Eq) e1 e2 s Φ :=
  jr_of (op_eqD r.units) fun as G H σ v w Q c v1 v2 k => ⟨_, _, (c.dpv n m).1 v1 h1 f1, (c.dpv n m).1 v2 h2 f2, shaped_of f1 hm, shaped_of f2 hm, k _ as G H _ s c (Ext.refl _ _) (Rep.bl _) q⟩
theorem jr_neW {B n m : Nat} {e1 e2 : E} {d1 d2 : D} {Φ : E → S → Prop} (r : Room B X.A) (h1 : s.vw n e1 = some d1) (h2 : s.vw n e2 = some d2) (f1 : flD m d1 = true) (f2 : flD m d2 = true) (hm : m ≤ 64) (q : Φ (.d (.bl (!PyData.eqv (pyD d1) (pyD d2)))) s) : JR X F (compareOp .NotEq) e1 e2 s Φ :=
  jr_of (op_neD r.units) fun as G H σ v w Q c v1 v2 k => ⟨_, _, (c.dpv n m).1 v1 h1 f1, (c.dpv n m).1 v2 h2 f2, shaped_of f1 hm, shaped_of f2 hm, k _ as G H _ s c (Ext.refl _ _) (Rep.bl _) q⟩
mutual
theorem eqv_self : ∀ (d : D), PyData.eqv (pyD d) (pyD d) = true
  | .non => rfl
  | .bl b => by cases b <;> rfl
  | .int i => by show (i == i) = true; simp
  | .str x => by show (x == x) = true; simp
  | .nd .lst ds => eqvs_self ds
  | .nd .tup ds => eqvs_self ds
  | .nd (.dct _) _ => rfl
  | .nd (.ins _ _) _ => rfl
  | .nd (.exc _ _ _ _) _ => rfl
theorem eqvs_self : ∀ (ds : List D), PyData.eqvAll (pyDs ds) (pyDs ds) = true
  | [] => rfl
  | d :: ds => by show (PyData.eqv _ _ && PyData.eqvAll _ _) = true; rw [eqv_self d, eqvs_self ds]; rfl
end
end
/-! ### [elt for x in it if c0], the test writes -/
section
variable {X : Cx} {F : Fr} {s : S} {elt iter c0 : Expr} {scope : Scope} {own : List (Str × Nat)} {pos p : Pos} {x : Str} {j B : Nat} {Φ : E → S → Prop}
def LcIT (X : Cx) (F : Fr) (tg iter elt c0 : Expr) (scope : Scope) (vs : List Nat) (j : Nat) (s : S) (Θ : List D → S → Prop) : Prop :=
  JI X F tg iter s fun n it s1 => n ≤ 16000000 ∧ ∃ In : Nat → List D → S → Prop, In 0 [] (s1.wipe vs) ∧
    (∀ i v ds t, i < n → it i v → ds.length ≤ i → In i ds t → t.wipe vs = t ∧ t.ce.length = s1.ce.length ∧ ∀ Y, IsBlk X scope Y → JT Y F c0 (t.blkI ds j v) fun b s2 => ∃ t', s2 = t'.blkI ds j v ∧ t'.wipe vs = t' ∧ t'.ce.length = s1.ce.length ∧
      if b = true then ∀ Y2, IsBlk X scope Y2 → JE Y2 F elt (t'.blkI ds j v) fun y s3 => ∃ d, y = .d d ∧ s3 = t'.blkI ds j v ∧ In (i + 1) (ds ++ [d]) t' else In (i + 1) ds t') ∧
    ∀ ds t, ds.length ≤ n → In n ds t → t.ce.length = s1.ce.length ∧ Θ ds ⟨s1.sl, t.ce, s1.ar⟩
theorem lc_impT (hj : j ∈ own.map (·.2)) {n : Nat} {it : Nat → E → Prop} {s1 : S} {In : Nat → List D → S → Prop} (hn : n ≤ 16000000) (w0 : (s1.wipe (own.map (·.2))).wipe (own.map (·.2)) = s1.wipe (own.map (·.2))) (h0 : In 0 [] (s1.wipe (own.map (·.2))))
    (ht : ∀ i v ds t, i < n → it i v → ds.length ≤ i → In i ds t → t.wipe (own.map (·.2)) = t ∧ t.ce.length = s1.ce.length ∧ ∀ Y, IsBlk X scope Y → JT Y F c0 (t.blkI ds j v) fun b s2 => ∃ t', s2 = t'.blkI ds j v ∧ t'.wipe (own.map (·.2)) = t' ∧ t'.ce.length = s1.ce.length ∧
      if b = true then ∀ Y2, IsBlk X scope Y2 → JE Y2 F elt (t'.blkI ds j v) fun y s3 => ∃ d, y = .d d ∧ s3 = t'.blkI ds j v ∧ In (i + 1) (ds ++ [d]) t' else In (i + 1) ds t') :
    let In' : Nat → List E → S → Prop := fun i acc s' => ∃ ds t, ds.length ≤ i ∧ acc = ds.map .d ∧ s' = t.push .lst acc ∧ t.wipe (own.map (·.2)) = t ∧ t.ce.length = s1.ce.length ∧ In i ds t
    In' 0 [] ((s1.wipe (own.map (·.2))).push .lst []) ∧
      (∀ i v acc s', i < n → it i v → In' i acc s' → nth s'.ce s1.ce.length = some (.nd .lst acc) ∧ ∀ Y, IsBlk X scope Y → JTs Y F [c0] (s'.set j v) fun b s2 =>
        if b = true then ∀ Y2, IsBlk X scope Y2 → JE Y2 F elt s2 fun y s3 => nth s3.ce s1.ce.length = some (.nd .lst acc) ∧ acc.length < sizeLine ∧ In' (i + 1) (acc ++ [y]) ((s3.put s1.ce.length .lst (acc ++ [y])).wipe (own.map (·.2)))
        else In' (i + 1) acc (s2.wipe (own.map (·.2)))) := by
  intro In'
  have cel : ∀ (t : S) (l : List E), t.ce.length = s1.ce.length → nth (t.push .lst l).ce s1.ce.length = some (.nd .lst l) := fun t l hl => by
    rw [nth_eq, ← hl]
    exact (List.getElem?_append_right (Nat.le_refl _)).trans (by simp)
  have wp : ∀ (t : S) (l : List E) (v : E), t.wipe (own.map (·.2)) = t → ((t.push .lst l).set j v).wipe (own.map (·.2)) = t.push .lst l := fun t l v hw => by
    rw [set_wipe hj]
    show (⟨wipeN t.sl _, _, _⟩ : S) = ⟨t.sl, _, _⟩
    rw [show wipeN t.sl (own.map (·.2)) = t.sl from congrArg S.sl hw]
    rfl
  refine ⟨⟨[], _, Nat.le_refl _, rfl, rfl, w0, rfl, h0⟩, ?_⟩
  rintro i v acc s' hi hv ⟨ds, t, hdl, rfl, rfl, hw, hl, hI⟩
  obtain ⟨_, _, hJ⟩ := ht i v ds t hi hv hdl hI
  refine ⟨cel t _ hl, fun Y hY => ?_⟩
  have t1 := hJ Y hY
  refine fun as G H σ Q c k => t1 as G H σ Q c fun b as' G' H' s' c' y ⟨t', e1, e2, e3, e4⟩ => k b as' G' H' s' c' y ?_
  subst e1
  cases b with
  | true =>
    refine L2.iteT fun Y2 hY2 => (e4 Y2 hY2).mono fun y s3 ⟨d, f1, f2, f3⟩ => ?_
    subst f1 f2
    refine ⟨cel t' _ e3, by rw [List.length_map, sizeLine_eq]; omega, ds ++ [d], t', by rw [List.length_append]; simp; omega, by simp, ?_, e2, e3, f3⟩
    have hput : ((t'.push .lst (ds.map .d)).set j v).put s1.ce.length .lst (ds.map .d ++ [.d d]) = (t'.push .lst (ds.map .d ++ [.d d])).set j v := by
      show (⟨_, setN (t'.ce ++ [Cell.nd .lst _]) s1.ce.length _, _⟩ : S) = ⟨_, t'.ce ++ [_], _⟩
      rw [setN_eq, ← e3, List.set_append_right _ _ (Nat.le_refl _)]
      simp
      exact ⟨rfl, rfl⟩
    show (((t'.push .lst (ds.map .d)).set j v).put s1.ce.length .lst (ds.map .d ++ [.d d])).wipe _ = _
    rw [hput]
    exact wp t' _ v e2
  | false =>
    refine L2.iteF ⟨ds, t', by omega, rfl, wp t' _ v e2, e2, e3, e4⟩
theorem js_setLcIT {i : Nat} {y : Str} {py spos : Pos} {P : Po} (bx : Bx X B) (ny : NmW X i y) (ly : X.env.scope.names.lookup y = some .local) (hsw : swapsWith (.ListComp elt [⟨.Name x p, iter, [c0], 0⟩] scope pos) (some (.Name y py)) spos.line X.env = pure true)
    (ok : BlkOk X.N X.env.scope scope own) (hj : j ∈ own.map (·.2)) (hn : ∀ Y, IsBlk X scope Y → NmW Y j x)
    (h : LcIT X F (.Name x p) iter elt c0 scope (own.map (·.2)) j s fun ds t => P.nx ((t.push .lst (ds.map .d)).set i (.r t.ce.length)))
    (hs : ∀ x, foldedSetIterable iter X.env x = pure x := by intro _; rfl) : JS X F (.Assign [.Name y py] (.ListComp elt [⟨.Name x p, iter, [c0], 0⟩] scope pos) spos) s P := by
  refine js_setLc bx ny ly hsw ok hj hn (fun as G H σ R c k => h as G H σ R c fun J as1 G1 H1 s1 n it c1 x1 okJ ⟨q1, In, q2, q3, q4⟩ => ?_) hs
  have z := lc_impT hj q1 wipe_wipe q2 q3
  refine k J as1 G1 H1 s1 n it c1 x1 okJ ⟨_, z.1, z.2, ?_⟩
  rintro acc s' ⟨ds, t, hdl, rfl, rfl, hw, hl, hI⟩
  obtain ⟨e1, e2⟩ := q4 ds t hdl hI
  rw [← e1]
  exact e2
end
end DL
/-! ### new lists that stay ours -/
namespace DL
open PySem PySem.Spec PyProof.Rows L2
section
variable {X : Cx} {F : Fr} {s : S} {a : Expr} {pos p : Pos} {Φ : E → S → Prop}
theorem je_sortedDO {B : Nat} (bx : Bx X B) (g : GlB X "sorted") (h : JE X F a s fun e s1 => ∃ (ks : List Str) (es : List E), s1.node e = some (.dct (ks.map Sum.inr), es) ∧ ks.length < 64 ∧ ∀ ys, ys.Perm ks → sortedS ys = true → Φ (.r s1.ce.length) (s1.push .lst ((ys.map D.str).map .d)))
    (ns : NoStar a := by intro _ _; rfl) : JE X F (.Call (.Name "sorted" p) [a] [] pos) s Φ :=
  je_of (pe_callB (r := rSortD) (call_sortedD bx.calm) g.gl g.mg PyProof.Rows.boot_sorted (pa_cons (pe_sem X a) pa_nil (ns _ _)) (he := ns _ _)) fun as G H σ Q c k => h as G H σ _ c fun v as1 G1 H1 e1 s1 c1 x1 ve ⟨ks, es, h1, h2, h3⟩ => by
    obtain ⟨d, vs, rfl, ⟨n1, n2, od, n3⟩, ves⟩ := c1.node ve h1
    refine ⟨d, _, ks, rfl, .inr ⟨od, n3⟩, by rw [List.map_fst_zip (Nat.le_of_eq n1)], h2, fun ys q hy hs hq => ?_⟩
    have c2 := c1.addO (p := q) (o := .lst (ys.map V.str)) (kd := .lst) (vs := ys.map V.str) (es := (ys.map D.str).map .d) hq upd_same (VEs.ofReps (reps_strs ys))
    exact k _ _ G1 _ (.r s1.ce.length) _ c2 (x1.trans ⟨pre_snoc, Same.refl _⟩) ⟨q, by rw [← c1.len, List.getElem?_append_right (Nat.le_refl _)]; simp, rfl⟩ (h3 ys hy hs)
section
variable {elt iter : Expr} {scope : Scope} {own : List (Str × Nat)} {x : Str} {j B : Nat}
/-- [elt for x in iter], the elements pure: the list stays ours -/
theorem je_lcPO (bx : Bx X B) (ok : BlkOk X.N X.env.scope scope own) (hj : j ∈ own.map (·.2)) (hn : ∀ Y, IsBlk X scope Y → NmW Y j x)
    (h : JI X F (.Name x p) iter s fun n it s1 => s1 = s ∧ n ≤ 16000000 ∧ ∃ f : Nat → D, (∀ i v acc, i < n → it i v → ∀ Y, IsBlk X scope Y → JE Y F elt (s.blk (own.map (·.2)) acc j v) fun y s3 => y = .d (f i) ∧ s3 = s.blk (own.map (·.2)) acc j v) ∧ Φ (.r s.ce.length) (s.push .lst (((List.range n).map f).map .d)))
    (hs : ∀ x, foldedSetIterable iter X.env x = pure x := by intro _; rfl) : JE X F (.ListComp elt [⟨.Name x p, iter, [], 0⟩] scope pos) s Φ := by
  refine je_lc bx ok hj hn (fun as G H σ R c k => h as G H σ R c fun J as1 G1 H1 s1 n it c1 x1 okJ ⟨q1, q2, f, q3, q4⟩ => ?_) hs
  subst q1
  refine k J as1 G1 H1 s1 n it c1 x1 okJ ⟨_, (lc_pure hj q2 q3).1, (lc_pure hj q2 q3).2, ?_⟩
  rintro acc s' ⟨rfl, rfl⟩
  exact q4
end
end
end DL
/-! ### dict(d) that stays ours; tuple + tuple; keys taken out -/
namespace DL
open PySem PySem.Spec PyProof.Rows L2
section
variable {X : Cx} {F : Fr} {s : S} {a : Expr} {pos p : Pos} {Φ : E → S → Prop}
theorem je_dictO (g : GlB X "dict") (h : JE X F a s fun e s1 => ∃ (ks : List Key) (ds : List D), s1.node e = some (.dct ks, ds.map .d) ∧ Φ (.r s1.ce.length) (s1.push (.dct ks) (ds.map .d))) (ns : NoStar a := by intro _ _; rfl) : JE X F (.Call (.Name "dict" p) [a] [] pos) s Φ := fun as G H σ Q c k =>
  sem_lock (PE.sem (pe_callTy call_dictD g.gl g.mg PyProof.Rows.boot_dict (pa_cons (pe_sem X a) pa_nil (ns _ _)) (he := ns _ _)) (h as G H σ _ c fun v as1 G1 H1 e1 s1 c1 x1 ve ⟨ks, ds, h1, h2⟩ => by
    obtain ⟨d, vs, rfl, ⟨n1, n2, od, n3⟩, ves⟩ := c1.node ve h1
    refine ⟨d, _, rfl, .inr ⟨od, n3⟩, fun q hq => ⟨q, _, upd_same, trivial, fun od' => ?_⟩⟩
    rw [upd_upd]
    have c2 := c1.addO (p := q) (o := .frz od' (.dK (ks.zip vs))) (kd := .dct ks) (vs := vs) (es := ds.map .d) hq ⟨n1, n2, od', upd_same⟩ ves
    exact k _ _ G1 _ (.r s1.ce.length) _ c2 (x1.trans ⟨pre_snoc, Same.refl _⟩) ⟨q, by rw [← c1.len, List.getElem?_append_right (Nat.le_refl _)]; simp, rfl⟩ h2))
/-- t + u, tuples -/
theorem jr_catT {e1 e2 : E} {ds1 ds2 : List D} (h1 : s.node e1 = some (.tup, ds1.map .d)) (h2 : s.node e2 = some (.tup, ds2.map .d)) (n1 : ds1 ≠ []) (n2 : ds2 ≠ []) (hl : ds1.length + ds2.length ≤ sizeLine) (q : Φ (.d (.nd .tup (ds1 ++ ds2))) s) : JR X F (binaryOp .Add) e1 e2 s Φ :=
  jr_of op_catT fun as G H σ x y Q c v1 v2 k => by
    obtain ⟨a, vs, rfl, m1, w1⟩ := c.node v1 h1
    obtain ⟨b, ws, rfl, m2, w2⟩ := c.node v2 h2
    have l1 := w1.reps.length
    have l2 := w2.reps.length
    have z1 : vs ≠ [] := fun z => n1 (List.eq_nil_of_length_eq_zero (by rw [← l1, z]; rfl))
    have z2 : ws ≠ [] := fun z => n2 (List.eq_nil_of_length_eq_zero (by rw [← l2, z]; rfl))
    refine ⟨a, b, vs, ws, rfl, rfl, m1, m2, z1, by rw [l1, l2]; exact hl, fun z => absurd z z2, fun _ p hp => ?_⟩
    have sg : Same G (upd G p (.tup (vs ++ ws))) := same_new (c.gnone hp)
    have w : VEs X.K G as (vs ++ ws) ((ds1 ++ ds2).map .d) := by rw [List.map_append]; exact VEs_app w1 w2
    exact k _ as _ _ (.d (.nd .tup (ds1 ++ ds2))) s (c.addG hp) ⟨List.prefix_refl _, sg⟩ (.nd (SqT.of upd_same) (w.reps.mono sg)) q
end
section
variable {α : Type} (nm : α → Str) (dt : α → D) (z : Str)
theorem dlK_map : ∀ (xs : List α), dlK (xs.map fun x => (Sum.inr (nm x) : Key)) (.inr z) = (xs.filter fun x => decide (nm x ≠ z)).map fun x => Sum.inr (nm x)
  | [] => rfl
  | x :: xs => by
    rw [List.map_cons]
    by_cases e : nm x = z
    · rw [dlK_y (by rw [e]), List.filter_cons_of_neg (by simp [e]), dlK_map xs]
    · rw [dlK_n (fun q => e (Sum.inr.inj q)), List.filter_cons_of_pos (by simp [e]), List.map_cons, dlK_map xs]
theorem dlV_map : ∀ (xs : List α), dlV (xs.map fun x => (Sum.inr (nm x) : Key)) (xs.map fun x => E.d (dt x)) (.inr z) = (xs.filter fun x => decide (nm x ≠ z)).map fun x => E.d (dt x)
  | [] => rfl
  | x :: xs => by
    rw [List.map_cons, List.map_cons]
    by_cases e : nm x = z
    · rw [dlV_y (by rw [e]), List.filter_cons_of_neg (by simp [e]), dlV_map xs]
    · rw [dlV_n (fun q => e (Sum.inr.inj q)), List.filter_cons_of_pos (by simp [e]), List.map_cons, dlV_map xs]
end
end DL
namespace DL
open PySem PySem.Spec PyProof.Rows L2
theorem NmW.suite {X : Cx} {i : Nat} {x : Str} (h : NmW X i x) (a : Addr) (pn : List (Addr × Obj)) : NmW (X.suite a pn) i x := ⟨h.1, h.2, h.3, h.4⟩
section
variable {X Y : Cx} {F : Fr} {s : S} {o : Option Addr} {a C : Addr} {B : Nat}
theorem IsSu.nmW (hY : IsSu X C o a Y) {i : Nat} {x : Str} (h : NmW X i x) : NmW Y i x := by
  obtain ⟨oe, pn, rfl, _⟩ := hY.ex
  exact h.suite a _
theorem IsSu.nmR (hY : IsSu X C o a Y) {i : Nat} {x : Str} (h : NmR X i x) : NmR Y i x := by
  obtain ⟨oe, pn, rfl, _⟩ := hY.ex
  exact h.suite a _
/-- == where an exception is handled -/
theorem jr_eqH {n m : Nat} {e1 e2 : E} {d1 d2 : D} {Φ : E → S → Prop} (hY : IsSu X C o a Y) (bx : Bx X B) (h1 : s.vw n e1 = some d1) (h2 : s.vw n e2 = some d2) (f1 : flD m d1 = true) (f2 : flD m d2 = true) (hm : m ≤ 64) (q : Φ (.d (.bl (PyData.eqv (pyD d1) (pyD d2)))) s) : JR Y F (compareOp .Eq) e1 e2 s Φ := by
  obtain ⟨oe, pn, rfl, _⟩ := hY.ex
  exact jr_of (op_eqD (X := X.suite a ((a, oe) :: pn)) bx.room.units) fun as G H σ v w Q c v1 v2 k => ⟨_, _, (c.dpv n m).1 v1 h1 f1, (c.dpv n m).1 v2 h2 f2, shaped_of f1 hm, shaped_of f2 hm, k _ as G H _ s c (Ext.refl _ _) (Rep.bl _) q⟩
end
section
variable {X : Cx} {F : Fr} {s : S} {elt iter c0 : Expr} {scope : Scope} {own : List (Str × Nat)} {pos p : Pos} {x : Str} {j B : Nat} {Φ : E → S → Prop}
/-- [elt for x in it if c0], the test writes: owned -/
theorem je_lcIT (bx : Bx X B) (ok : BlkOk X.N X.env.scope scope own) (hj : j ∈ own.map (·.2)) (hn : ∀ Y, IsBlk X scope Y → NmW Y j x)
    (h : LcIT X F (.Name x p) iter elt c0 scope (own.map (·.2)) j s fun ds t => Φ (.r t.ce.length) (t.push .lst (ds.map .d)))
    (hs : ∀ x, foldedSetIterable iter X.env x = pure x := by intro _; rfl) : JE X F (.ListComp elt [⟨.Name x p, iter, [c0], 0⟩] scope pos) s Φ := by
  refine je_lc bx ok hj hn (fun as G H σ R c k => h as G H σ R c fun J as1 G1 H1 s1 n it c1 x1 okJ ⟨q1, In, q2, q3, q4⟩ => ?_) hs
  have z := lc_impT hj q1 wipe_wipe q2 q3
  refine k J as1 G1 H1 s1 n it c1 x1 okJ ⟨_, z.1, z.2, ?_⟩
  rintro acc s' ⟨ds, t, hdl, rfl, rfl, hw, hl, hI⟩
  obtain ⟨e1, e2⟩ := q4 ds t hdl hI
  rw [← e1]
  exact e2
end
end DL
namespace DL
open PySem PySem.Spec PyProof.Rows L2
section
variable {X Y : Cx} {F : Fr} {s : S} {o : Option Addr} {a C : Addr} {B : Nat}
/-- != where an exception is handled -/
theorem jr_neH {n m : Nat} {e1 e2 : E} {d1 d2 : D} {Φ : E → S → Prop} (hY : IsSu X C o a Y) (bx : Bx X B) (h1 : s.vw n e1 = some d1) (h2 : s.vw n e2 = some d2) (f1 : flD m d1 = true) (f2 : flD m d2 = true) (hm : m ≤ 64) (q : Φ (.d (.bl (!PyData.eqv (pyD d1) (pyD d2)))) s) : JR Y F (compareOp .NotEq) e1 e2 s Φ := by
  obtain ⟨oe, pn, rfl, _⟩ := hY.ex
  exact jr_of (op_neD (X := X.suite a ((a, oe) :: pn)) bx.room.units) fun as G H σ v w Q c v1 v2 k => ⟨_, _, (c.dpv n m).1 v1 h1 f1, (c.dpv n m).1 v2 h2 f2, shaped_of f1 hm, shaped_of f2 hm, k _ as G H _ s c (Ext.refl _ _) (Rep.bl _) q⟩
end
end DL
/-! ### lists of unequal length; isinstance of a new exception -/
namespace PySem.W
open PySem PySem.Spec PySem.Calls PyProof.Rows
section
variable {K : Frag} {x t c : Value} {G : Heap → Prop}
/-- the type alone says yes -/
theorem yes_ans (ty : ∀ (M : Model) (h : Heap), K.In h → G h → Looks M h (typeOf x) t) (ne : (t == c) = false) (e : kitCls K t c = some true) : Answers (fun s => K.In s.heap ∧ G s.heap) x c true := by
  rintro dep tk prog w A R ⟨h0, g, d, tt, os⟩ ⟨⟨X, p⟩, hq⟩
  have looksT := ty (model prog w) h0 X p
  unfold Builtin.«isinstance.nested»
  refine wpAny_bind (looksT.at ?_)
  rw [ne, if_neg Bool.false_ne_true]
  obtain ⟨hty, his, hsub⟩ := kit_cls (M := model prog w) X e
  refine wpAny_bind (hty.at ?_)
  rw [if_pos (by decide)]
  k_delta "plainIsInstance"
  refine wpAny_bind (wpAny_bind (his.at ?_))
  simp only [Bool.not_true, Bool.false_eq_true, if_false]
  refine wpAny_bind ((looksT.andThen hsub).at ?_)
  first
    | exact wpAny_pure (wpAny_pure (hq tt))
    | (simp only [if_true]; first | exact wpAny_pure (wpAny_pure (hq tt)) | exact wpAny_pure (hq tt) | exact wpAny_bind (wpAny_pure (wpAny_pure (hq tt))))
theorem yes_one {prog : Program} {w : World} {A : Around} {E Q : Value → Shared → Prop} {s : Shared} (ty : ∀ (M : Model) (h : Heap), K.In h → G h → Looks M h (typeOf x) t) (ne : (t == c) = false) (e : kitCls K t c = some true) (X : K.In s.heap) (p : G s.heap) (hx : x ≠ .builtin "__main__.__loader__#opaque")
    (h : ∀ tk, Q (.bool true) { s with toks := tk }) : wpAny (model prog w) A (call (.builtin "isinstance") [x, c]) Q E s :=
  call_isinstance (S := fun _ R s => (K.In s.heap ∧ G s.heap) ∧ ∀ tk, R (.ok (.ret (.bool true))) { s with toks := tk }) (fun prog w A R s hs => isinstance_outer (yes_ans ty ne e 0 _ prog w A R s hs) hx) ⟨⟨X, p⟩, h⟩
end
end PySem.W
namespace DL
open PySem PySem.Spec PyProof.Rows L2
section
variable {X : Cx} {F : Fr} {s : S} {Φ : E → S → Prop}
theorem op_neLen (hu : X.A.units < cLine) : OpR X (compareOp .NotEq) (fun x y H Q => ∃ a b xs ys, x = .ref a ∧ y = .ref b ∧ SqL X.K H a xs ∧ SqL X.K H b ys ∧ xs.length ≠ ys.length ∧ Q (.bl true) H) := by
  rintro pins st σ H x y v u Q I rx ry ⟨a, b, xs, ys, rfl, rfl, ha, hb, hl, q⟩
  cases (show v = Value.ref a from rx)
  cases (show u = Value.ref b from ry)
  obtain ⟨us, r1, p1, _⟩ := I.list ha
  obtain ⟨ws, r2, p2, _⟩ := I.list hb
  have hz : (us.toArray.size != ws.toArray.size) = true := by
    rw [List.size_toArray, List.size_toArray, ← r1.length, ← r2.length]
    simpa using hl
  exact SeqAt.RcNeAt.lists_lengths p1.isList p2.isList hz hu _ _ _ _ ⟨.bl true, H, I, rfl, q⟩
/-- a list is not one of another length -/
theorem jr_neLen {B : Nat} {e1 e2 : E} {es1 es2 : List E} (bx : Bx X B) (h1 : s.node e1 = some (.lst, es1)) (h2 : s.node e2 = some (.lst, es2)) (hl : es1.length ≠ es2.length) (q : Φ (.d (.bl true)) s) : JR X F (compareOp .NotEq) e1 e2 s Φ :=
  jr_of (op_neLen bx.room.units0) fun as G H σ x y Q c v1 v2 k => by
    obtain ⟨a, vs, rfl, n1, w1⟩ := c.node v1 h1
    obtain ⟨b, ws, rfl, n2, w2⟩ := c.node v2 h2
    exact ⟨a, b, vs, ws, rfl, rfl, n1, n2, by rw [Paired.length w1, Paired.length w2]; exact hl, k _ as G H _ s c (Ext.refl _ _) (Rep.bl _) q⟩
end
end DL
/-! ### isinstance(C(x), D), C an exception class, D one of its bases -/
namespace DL
open PySem PySem.Spec PyProof.Rows L2
section
variable {X : Cx} {F : Fr} {s : S} {Φ : E → S → Prop} {ec e : Expr} {es : List Expr} {p p1 p2 p3 pos : Pos} {dn nm fl : Str} {C D : Addr} {t : L2.St → Hp → XK → Prop} {B : Nat}
theorem pe_isExc (g : GlB X "isinstance") (hD : Names X dn (.ref D)) (hk : PySem.W.kitCls X.K (.ref C) (.ref D) = some true) (ne : C ≠ D) (he : PMk X ec t)
    (h1 : starEach [ec, .Name dn p3] X.env = (false, eval ec X.env) :: starEach [.Name dn p3] X.env := by rfl) (h2 : (backTo pos (starEach [.Name dn p3] X.env)).any (·.1) = false := by rfl) :
    PE X (.Call (.Name "isinstance" p) [ec, .Name dn p3] [] pos) (fun σ H Q => t σ H fun cls _ H' => cls = .ref C ∧ Q (.bl true) H') := by
  refine ⟨fun pins st σ H Q I h => ?_⟩
  refine wpAny_Call_Name_kw (ld_blt I g.gl g.mg PyProof.Rows.boot_isinstance ?_ (by decide) (by decide))
  refine PyProof.Rows.callWith_builtin1 ?_ h1 h2
  rw [h1]
  show wpAny _ _ (spliced ((false, eval ec X.env) :: backTo pos (starEach [.Name dn p3] X.env))) _ _ st
  refine Calls.spliced_cons (wpAny_mono (he pins st σ H _ I h) (fun u s1 hu => ?_) (fun _ _ x => x))
  obtain ⟨a, oe, vs, sI, H', cls, d, rfl, J, k, hne, ha, hz, hd, h3, na, os, ag, r, ec', q⟩ := hu
  subst ec'
  have J1 : Inv X pins σ H' s1 := J.call' (ch := []) os (Un.kept k) (J.hok.kept k) ag fun b hb => by cases hb
  have named : ∀ {Q : Value → Shared → Prop} {E : Value → Shared → Prop}, Q (.ref D) s1 → wpAny (model X.prog X.w) X.A (eval (.Name dn p3) X.env) Q E s1 := by
    intro Q E q
    rcases hD with ⟨hg, hdb, hm | ⟨hm, hv, hn⟩⟩
    · exact ld_glob J1 hg hm q hdb
    · exact ld_blt J1 hg hm hv q hn hdb
  show wpAny _ _ (spliced ((false, eval (.Name dn p3) X.env) :: [])) _ _ s1
  refine Calls.spliced_cons (named (Calls.spliced_nil ?_))
  exact PySem.W.yes_one (G := fun h => ∃ o, h.get? a = some o ∧ o.cls = .ref C) (fun M h X' ⟨o, e1, e2⟩ A Q E s2 k2 q2 => wpAny_typeOf_ref (k2 _ _ e1) (by rw [e2]; exact q2)) (by simpa using ne) hk J1.kIn ⟨oe, ha, hz.1⟩ (fun z => by cases z) fun tk => ⟨.bl true, H', J1.tok tk, rfl, q⟩
theorem je_isExc (g : GlB X "isinstance") (bx : Bx X B) (hB : 2 ≤ B) (T : SupC1 X.prog X.K C fl) (hs : X.mg "super" = none) (hg : Gl X nm) (hm : X.mg nm = some (.ref C)) (hD : Names X dn (.ref D)) (hk : PySem.W.kitCls X.K (.ref C) (.ref D) = some true) (ne : C ≠ D)
    (h : JA X F (e :: es) s fun es s1 => ∃ d, es = [.d d] ∧ Φ (.d (.bl true)) s1)
    (hdb : (nm == ("__debug__" : Str)) = false := by decide) (he : starEach (e :: es) X.env = (false, eval e X.env) :: starEach es X.env := by rfl) (hpl : (backTo p2 (starEach es X.env)).any (·.1) = false := by rfl)
    (h1 : starEach [.Call (.Name nm p1) (e :: es) [] p2, .Name dn p3] X.env = (false, eval (.Call (.Name nm p1) (e :: es) [] p2) X.env) :: starEach [.Name dn p3] X.env := by rfl) (h2 : (backTo pos (starEach [.Name dn p3] X.env)).any (·.1) = false := by rfl) :
    JE X F (.Call (.Name "isinstance" p) [.Call (.Name nm p1) (e :: es) [] p2, .Name dn p3] [] pos) s Φ :=
  je_of (pe_isExc g hD hk ne (pmk_sup1 T hs (bx.room.mono hB) hg hm (pa_sem X (e :: es)) hdb he hpl) h1 h2) fun as G H σ Q c kk => h as G H σ _ c fun vs as1 G1 H1 es1 s1 c1 x1 ves ⟨d, ed, q⟩ => by
    subst ed
    cases ves with
    | @cons v _ _ _ r tt =>
      cases tt
      refine ⟨v, rfl, fun dd hd => ⟨rfl, ?_⟩⟩
      have c2 := c1.lay (o := .xd [(fl, v)]) hd
      exact kk (.bl true) as1 G1 _ (.d (.bl true)) s1 c2 x1 (Rep.bl true) q
end
end DL
namespace DL
open PySem PySem.Spec PyProof.Rows L2
variable {X : Cx} {F : Fr} {s : S}
/-! ### a dict of owned lists, behind three cells of which two are lists of data -/
def rf4 (n : Nat) : List E := (List.range n).map fun j => .r (4 + j)
theorem rf4_succ (n : Nat) : rf4 (n + 1) = rf4 n ++ [.r (4 + n)] := by unfold rf4; rw [List.range_succ, List.map_append]; rfl
theorem rf4_len (n : Nat) : (rf4 n).length = n := by unfold rf4; rw [List.length_map, List.length_range]
theorem rf4_get {n j : Nat} (h : j < n) : (rf4 n)[j]? = some (.r (4 + j)) := by unfold rf4; rw [List.getElem?_map, List.getElem?_range h]; rfl
theorem rf4_fz {n k : Nat} {x : D} (h : 4 + n ≤ k) : (rf4 n).map (E.fz k x) = rf4 n := by
  unfold rf4
  rw [List.map_map]
  refine List.map_congr_left fun j hj => ?_
  have := List.mem_range.mp hj
  show (if (4 + j == k) = true then _ else _) = _
  rw [if_neg (by simp; omega)]
theorem rf4_lt {n k : Nat} (h : 4 + n ≤ k) : (rf4 n).all (E.lt k) = true := by
  refine List.all_eq_true.mpr fun e he => ?_
  unfold rf4 at he
  obtain ⟨j, hj, rfl⟩ := List.mem_map.mp he
  have := List.mem_range.mp hj
  show decide (4 + j < k) = true
  exact decide_eq_true (by omega)
theorem fz_ds {k : Nat} {x : D} {kd : Kd} (ds : List D) : Cell.fz k x (.nd kd (ds.map E.d)) = .nd kd (ds.map .d) := by
  show Cell.nd _ _ = _
  rw [fzm_d]
theorem ltB_ds {k : Nat} {kd : Kd} (ds : List D) : Cell.ltB k (.nd kd (ds.map E.d)) = true := lt_ds k ds
def fz4 (sl : List (Option E)) (c0 : Cell) (d1 d2 : List D) (ks : List Key) (xs : List (List D)) (ar m : Nat) : S := ⟨sl, c0 :: lcC d1 :: lcC d2 :: .nd (.dct ks) (rf4 m ++ (xs.drop m).map fun x => .d (.nd .lst x)) :: (xs.take m).map lcC, ar⟩
theorem jss_frz4 {sts : List Stmt} {P : Po} {sl : List (Option E)} {c0 : Cell} {ks : List Key} {d1 d2 : List D} {xs : List (List D)} {ar : Nat}
    (h0 : ∀ k x, 4 ≤ k → sl.map (Option.map (E.fz k x)) = sl) (hc : ∀ k x, 4 ≤ k → c0.fz k x = c0) (h1 : sl.all (E.ltB 4) = true) (h2 : c0.ltB 4 = true) (ha : ar ≤ 4) (h : JSs X F sts (fz4 sl c0 d1 d2 ks xs ar 0) P) :
    ∀ m, m ≤ xs.length → JSs X F sts (fz4 sl c0 d1 d2 ks xs ar m) P
  | 0, _ => h
  | m + 1, hm => by
    obtain ⟨y, hy⟩ : ∃ y, xs[m]? = some y := ⟨_, List.getElem?_eq_getElem (by omega)⟩
    have tk : xs.take (m + 1) = xs.take m ++ [y] := by rw [List.take_add_one, hy]; rfl
    have dr : xs.drop m = y :: xs.drop (m + 1) := by rw [List.drop_eq_getElem_cons (by omega)]; rw [List.getElem?_eq_getElem (by omega)] at hy; cases hy; rfl
    have tl : (xs.take m).length = m := by rw [List.length_take]; omega
    have q : nth (fz4 sl c0 d1 d2 ks xs ar (m + 1)).ce (4 + m) = some (.nd .lst (y.map .d)) := by
      rw [nth_eq]
      show (c0 :: _ :: _ :: _ :: (xs.take (m + 1)).map lcC)[4 + m]? = _
      rw [show 4 + m = m + 1 + 1 + 1 + 1 by omega, List.getElem?_cons_succ, List.getElem?_cons_succ, List.getElem?_cons_succ, List.getElem?_cons_succ, List.getElem?_map, tk, List.getElem?_append_right (by omega), tl, Nat.sub_self]
      rfl
    refine jss_frz (k := 4 + m) (ds := y) q (dsOf_map _) (fun C fs z => by cases z) (by show ar ≤ _; omega) ?_
    refine jss_weak (s' := fz4 sl c0 d1 d2 ks xs ar m) ⟨fun i e he => ?_, ?_, ?_, rfl, ?_⟩ ?_ ?_ (jss_frz4 h0 hc h1 h2 ha h m (by omega))
    · show (sl.map (Option.map (E.fz (4 + m) _)))[i]? = _
      rw [h0 _ _ (by omega)]; exact he
    · show sl.length = (sl.map _).length
      rw [List.length_map]
    · show _ <+: (setN (c0 :: _ :: _ :: _ :: (xs.take (m + 1)).map lcC) (4 + m) .gone).map (Cell.fz (4 + m) (.nd .lst y))
      rw [setN_eq, show 4 + m = m + 1 + 1 + 1 + 1 by omega, List.set_cons_succ, List.set_cons_succ, List.set_cons_succ, List.set_cons_succ, tk, List.map_append, List.set_append_right _ _ (by rw [List.length_map]; omega), List.length_map, tl, Nat.sub_self]
      show _ <+: Cell.fz _ _ c0 :: Cell.fz _ _ (Cell.nd .lst (d1.map E.d)) :: Cell.fz _ _ (Cell.nd .lst (d2.map E.d)) :: Cell.fz _ _ _ :: (List.map (Cell.fz _ _) ((xs.take m).map lcC ++ [Cell.gone]))
      rw [hc _ _ (by omega), List.map_append, lcC_fz, fz_ds, fz_ds]
      refine ⟨[.gone], ?_⟩
      show _ :: _ :: _ :: _ :: _ = _
      congr 3
      show Cell.nd _ _ :: _ = Cell.nd _ (List.map _ _) :: _
      rw [List.map_append, rf4_succ, List.map_append, show m + 1 + 1 + 1 + 1 = 4 + m by omega, rf4_fz (Nat.le_refl _), dr]
      show Cell.nd _ _ :: _ = Cell.nd _ (rf4 m ++ [if (4 + m == 4 + m) = true then _ else _] ++ _) :: _
      rw [if_pos (by simp), show (List.map (E.fz (4 + m) (.nd .lst y)) ((xs.drop (m + 1)).map fun x => E.d (.nd .lst x))) = (xs.drop (m + 1)).map fun x => E.d (.nd .lst x) by rw [List.map_map]; rfl, List.append_assoc]
      rfl
    · show ar ≤ (c0 :: _ :: _ :: _ :: _).length
      simp only [List.length_cons]
      omega
    · refine ltB_mono ?_ h1
      show 4 ≤ (c0 :: _ :: _ :: _ :: _).length
      simp only [List.length_cons]
      omega
    · have el : (fz4 sl c0 d1 d2 ks xs ar m).ce.length = 4 + m := by
        show (c0 :: _ :: _ :: _ :: (xs.take m).map lcC).length = _
        simp only [List.length_cons, List.length_map, tl]
        omega
      rw [el]
      show (c0.ltB _ && (Cell.ltB _ (Cell.nd .lst (d1.map E.d)) && (Cell.ltB _ (Cell.nd .lst (d2.map E.d)) && (Cell.ltB _ _ && List.all _ _)))) = true
      rw [cltB_mono (by omega) h2, lcC_lt, ltB_ds, ltB_ds]
      show (true && (true && (true && ((rf4 m ++ _).all (E.lt _) && true)))) = true
      rw [List.all_append, rf4_lt (Nat.le_refl _)]
      simp only [Bool.true_and, Bool.and_true]
      exact List.all_eq_true.mpr fun e he => by obtain ⟨d, _, rfl⟩ := List.mem_map.mp he; rfl
end DL
/-! ### C(..) that raises while it only reads what is owned -/
namespace DL
open PySem PySem.Spec PyProof.Rows L2
variable {X : Cx} {F : Fr} {s : S}
theorem Cz.lentX {as1 : List Addr} {G1 H1 G' H' : Hp} {σ : L2.St} {s1 : S} {o : Option Addr} {x : Ex} (c1 : Cz X F as1 G1 H1 σ s1) (q1 : Same H1 H') (q2 : Same (lend s1 as1 G1 H1) G') (q3 : Same G' H') (q4 : ∀ b, lend s1 as1 G1 H1 b = none → H1 b ≠ none → G' b = none)
    (ex : ExAt X.K G' o x) (hi : D.imms x.ds = true) : ∃ G2, Cz X F as1 G2 H' σ s1 ∧ ExAt X.K G2 o x := by
  obtain ⟨G2, hG2, hG3⟩ : ∃ G2 : Hp, (∀ b, Alive s1 as1 b → G2 b = none) ∧ ∀ b, ¬ Alive s1 as1 b → G2 b = G' b := by
    classical
    exact ⟨fun b => if Alive s1 as1 b then none else G' b, fun b h => if_pos h, fun b h => if_neg h⟩
  have ga : ∀ {b : Addr}, Alive s1 as1 b → G1 b = none := fun {b} ⟨k, kd, es, w1, w2⟩ => c1.own k b _ _ w1 w2
  have s1' : Same G1 G2 := fun b o q => by
    rw [hG3 b (fun z => by rw [ga z] at q; cases q)]
    exact q2 b o (lend_sub b o q)
  have s2' : Same G2 H' := fun b o q => by
    by_cases hb : Alive s1 as1 b
    · rw [hG2 b hb] at q; cases q
    · rw [hG3 b hb] at q; exact q3 b o q
  have s4' : ∀ b, G1 b = none → H1 b ≠ none → G2 b = none := fun b w1 w2 => by
    by_cases hb : Alive s1 as1 b
    · exact hG2 b hb
    · rw [hG3 b hb]
      exact q4 b (lend_no w1 hb) w2
  have al : ∀ {b : Addr}, Alive s1 as1 b → ∃ us kd, CellAt G' b us kd := fun {b} z => by
    have w0 := ga z
    obtain ⟨j, kd, es, hj, hcl⟩ := z
    obtain ⟨b', us, g1, g2, g3⟩ := c1.cells j _ _ hcl
    rw [hj] at g1
    cases g1
    obtain ⟨o, ho⟩ := g2.some
    have hG' : G' b = some o := q2 b o (by rw [lend_yes w0 ⟨j, kd, es, hj, hcl⟩]; exact ho)
    exact ⟨us, kd, g2.keep fun u q => by rw [ho] at q; cases q; exact hG'⟩
  have tups : ∀ a vs, Rd G' a (.tup vs) → Rd G2 a (.tup vs) := fun b ws hb => by
    have nb : ¬ Alive s1 as1 b := fun z => by
      obtain ⟨us, kd, g2'⟩ := al z
      rcases hb with hb | ⟨oo, hb⟩
      · cases kd with
        | tup => exact g2'
        | lst => have : G' b = some (.lst us) := g2'; rw [hb] at this; cases this
        | dct ks => obtain ⟨_, _, _, this⟩ := g2'; rw [hb] at this; cases this
        | ins C fs => obtain ⟨_, _, this⟩ := g2'; rw [hb] at this; cases this
        | exc _ _ _ _ => exact g2'
      · cases kd with
        | tup => exact g2'
        | lst => have : G' b = some (.lst us) := g2'; rw [hb] at this; cases this
        | dct ks => obtain ⟨_, _, _, this⟩ := g2'; rw [hb] at this; cases this
        | ins C fs => obtain ⟨_, _, this⟩ := g2'; rw [hb] at this; cases this
        | exc _ _ _ _ => exact g2'
    rcases hb with hb | ⟨oo, hb⟩
    · exact .inl (by rw [hG3 b nb]; exact hb)
    · exact .inr ⟨oo, by rw [hG3 b nb]; exact hb⟩
  obtain ⟨vs, e1, e2, e3, e4⟩ := ex
  refine ⟨G2, c1.call q1 s1' s2' s4', vs, e1, imm_keeps tups _ _ e2 hi, e3, fun dd hd => ?_⟩
  have h5 := e4 dd hd
  have nb : ¬ Alive s1 as1 dd := fun z => by
    obtain ⟨us, kd, g2'⟩ := al z
    cases kd with
    | tup => exact g2'
    | lst => have : G' dd = some (.lst us) := g2'; rw [h5] at this; cases this
    | dct ks => obtain ⟨_, _, _, this⟩ := g2'; rw [h5] at this; cases this
    | ins C fs => obtain ⟨_, _, this⟩ := g2'; rw [h5] at this; cases this
    | exc _ _ _ _ => exact g2'
  rw [hG3 dd nb]
  exact h5
section
variable {p pos : Pos} {x : Str} {a : Expr} {es : List Expr} {k B : Nat} {C : Addr} {W : Ex → S → Prop} {Φ : E → S → Prop}
theorem je_makeEV {R : RX} (tk : TkX X F W) (cb : CbMX X x k C R) (bx : Bx X B) (hB : k + 1 ≤ B) (h : JA X F (a :: es) s fun vs s1 => ∃ n ds, vwL (s1.vw n) vs = some ds ∧ R ds fun x => D.imms x.ds = true ∧ W x s1) (hdb : (x == ("__debug__" : Str)) = false := by decide)
    (he : starEach (a :: es) X.env = (false, eval a X.env) :: starEach es X.env := by rfl) (hpl : (backTo pos (starEach es X.env)).any (·.1) = false := by rfl) : JE X F (.Call (.Name x p) (a :: es) [] pos) s Φ := by
  obtain ⟨f, fd, ps, hm, hb, hF⟩ := cb.ex
  obtain ⟨WW, tk, hw⟩ := tk
  intro as G H σ Q c kk pins st I
  refine wpAny_Call_Name_kw (ld_glob I cb.gl cb.mgC ?_ hdb)
  have h3 := h as G H σ (fun vs H2 => ∃ as2 G2 es2 s2, Cz X F as2 G2 H2 σ s2 ∧ Ext as as2 G G2 ∧ VEs X.K G2 as2 vs es2 ∧ ∃ n ds, vwL (s2.vw n) es2 = some ds ∧ R ds fun x => D.imms x.ds = true ∧ W x s2) c
    (fun vs as2 G2 H2 es2 s2 c2 x2 ves q => ⟨as2, G2, es2, s2, c2, x2, ves, q⟩) pos pins
  refine PySem.W.callWith_K (h₀ := X.base) I.ok.mod.kin hm.kp (thn (h3 _ I) ?_) he hpl
  rintro us st2 ⟨vs, H2, I2, rvs, as2, G2, es2, s2, c2, x2, ves, n, ds, e2, hR⟩
  refine ⟨I2.kIn, ?_⟩
  refine run_makeE hm hF (bx.room.mono hB) hb (passAt tk σ) I2 rvs fun y dy ny ndy ney => ⟨y, dy, vs, lend s2 as2 G2 H2, ds, rfl, fun b u q => ?_, ?_, upd_same, (c2.vws n).2 ves e2, cb.mono ds _ _ (fun x ⟨hi, hx⟩ o G' H' q1 q2 q3 q4 ex => ?_) hR⟩
  · have := lend_in c2.sub b u q
    rw [upd_ne (ne_of_none this ny), upd_ne (ne_of_none this ndy)]
    exact this
  · cases e : lend s2 as2 G2 H2 y with
    | none => rfl
    | some u => have := lend_in c2.sub y u e; rw [ny] at this; cases this
  · obtain ⟨G3, c3, ex3⟩ := c2.lentX (H' := H') (fun b u q => q1 b u (ne_of_none q ny) (by rw [upd_ne (ne_of_none q ny), upd_ne (ne_of_none q ndy)]; exact q)) q2 q3 (fun b g n => q4 b g (by
      cases e : H2 b with
      | none => exact absurd e n
      | some u => rw [upd_ne (ne_of_none e ny), upd_ne (ne_of_none e ndy), e]; simp)) ex hi
    exact hw as2 G3 H' σ s2 x o c3 ex3 hx
end
/-! ### defs with owned arguments and try -/
section
variable {P : Program} {w : World} {K : PySem.W.Frag} {mg : Str → Option Value} {base : Heap} {x qual : Str} {st : Stmt} {f : Addr} {fd : FuncData} {N ps : List Str} {k : Nat}
/-- the body's end tells what goes back: the first cells, and more if wanted -/
theorem fn_S2T {R : RS} (F : Fun K x qual st f fd) (S : FnScope N ps (defScope st)) (hlen : ∀ ce es post, R ce es post → es.length = ps.length)
    (body : ∀ (X : Cx) (F : Fr) (ce : List Cell) (es : List E) (post : E → List Cell → Prop), XIs X P w K mg base N (defScope st) k → (∀ y, X.fn y = true) → X.H_0 = F.H0 → XTop X → R ce es post → JSs X F (defBody st) (entry N es ce ce.length)
      { nx := fun s => ∃ r ce0, Goes s (List.range ce.length ++ r) ce0 ∧ post (.d .non) ce0, rt := fun e s => ∃ r ce0 e0, Goes s (List.range ce.length ++ r) ce0 ∧ e = e0.ren (jsF (List.range ce.length ++ r) s.ce.length) ∧ e0.lt (ce.length + r.length) = true ∧ post e0 ce0 }) :
    FnOk P w K mg base CX0 (k + 1) f fd ps (spS K R) := by
  refine F.ok S (fun vs H Q E h => ?_) fun cdv A outer s H vs Q Ex hr h => ?_
  · obtain ⟨as, ce, es, G, _, _, ve, hR⟩ := h
    rw [Paired.length ve]; exact hlen ce es _ hR
  · obtain ⟨as, ce, es, G, sg, ow, ve, hR⟩ := h
    refine ⟨_, pss_sem _ _, ?_⟩
    refine body _ ⟨G, H, as⟩ ce es _ ⟨rfl, rfl, rfl, rfl, rfl, rfl, rfl, rfl, S.nd, PassesOwn.never, hr⟩ (fun _ => rfl) rfl ⟨rfl, rfl⟩ hR as G H _ _ ?_ ?_
    · refine ⟨sg, Same.refl _, fun _ h _ => h, fun _ _ h _ => h, ow.len, List.prefix_refl _, ow.nd, ow.own, fun a h => .inl h, ow.there, ow.cells, fun i e h => slots_entry ve N h, ?_, ow.len⟩
      show (es.map some ++ List.replicate (N.length - es.length) none).length = (L2.start N vs).length
      unfold L2.start
      simp [Paired.length ve]
    · have key : ∀ {as' : List Addr} {G' H' : Hp} {σ' : L2.St} {s' : DL.S} {r : List Nat} {ce0 : List Cell}, Cz (cxOf CX0 P w K mg base N qual (defScope st) f cdv A outer s H Ex).nox ⟨G, H, as⟩ as' G' H' σ' s' → Goes s' (List.range ce.length ++ r) ce0 →
          as <+: subA as' (List.range ce.length ++ r) ∧ (∀ a ∈ subA as' (List.range ce.length ++ r), a ∈ as ∨ H a = none) ∧ (∀ b o, b ∉ as → H b = some o → H' b = some o) := fun {as' G' H' σ' s' r ce0} c g => by
        refine ⟨?_, fun a ha => ?_, fun b o hb q => c.frame b o q hb⟩
        · unfold subA
          rw [List.map_append]
          refine ⟨_, congrArg (· ++ r.map fun j => as'.getD j 0) ?_⟩
          apply List.ext_getElem?
          intro i
          by_cases hi : i < as.length
          · rw [List.getElem?_map, List.getElem?_range (by rw [← ow.len]; exact hi)]
            have := pre_get c.pre (List.getElem?_eq_getElem hi)
            rw [List.getElem?_eq_getElem hi]
            simp [List.getD, this]
          · rw [List.getElem?_eq_none (by omega), List.getElem?_eq_none (by rw [List.length_map, List.length_range, ← ow.len]; omega)]
        · obtain ⟨i, j, _, h⟩ := subA_mem (fun j hj => by rw [c.len]; exact g.2.1 j hj) ha
          exact c.fresh a (List.mem_of_getElem? h)
      refine ⟨fun as' G' H' σ' s' c x ⟨r, ce0, g, q⟩ => ?_, fun v as' G' H' σ' e' s' c x ve ⟨r, ce0, e0, g, h1, h2, q⟩ => ?_, fun _ _ _ _ _ _ _ q => q.elim, fun _ _ _ _ _ _ _ q => q.elim⟩
      · obtain ⟨k1, k2, k3⟩ := key c g
        exact q .non _ G' H' k1 k2 k3 c.base c.sub c.new (c.goes g) .non
      · obtain ⟨k1, k2, k3⟩ := key c g
        subst h1
        refine q v _ G' H' k1 k2 k3 c.base c.sub c.new (c.goes g) (ve_in (fun j hj => by rw [c.len]; exact g.2.1 j hj) ?_ ve)
        rw [List.length_append, List.length_range]; exact h2
theorem fn_NT {R : RCs} (F : Fun K x qual st f fd) (S : FnScope N ps (defScope st)) (hlen : ∀ os ds post, R os ds post → os.length + ds.length = ps.length)
    (body : ∀ (X : Cx) (F : Fr) (os : List (Kd × List D)) (ds : List D) (post : Rt → List (Kd × List D) → Prop), XIs X P w K mg base N (defScope st) k → (∀ y, X.fn y = true) → X.H_0 = F.H0 → XTop X → R os ds post → JSs X F (defBody st) (entry N ((List.range os.length).map .r ++ ds.map .d) (ceOf os) os.length)
      { nx := fun s => ∃ os', Owns s 0 os' ∧ os'.length = os.length ∧ post (.dat .non) os', rt := fun e s => ∃ os', Owns s 0 os' ∧ os'.length = os.length ∧ RtN os.length (fun r => post r os') e s }) :
    FnOk P w K mg base CX0 (k + 1) f fd ps (spS K (RSn R)) := by
  refine fn_S2T F S (fun ce es post ⟨os, ds, e1, e2, hR⟩ => ?_) fun X F ce es post hX hfn hH hT ⟨os, ds, e1, e2, hR⟩ => ?_
  · rw [e2, List.length_append, List.length_map, List.length_range, List.length_map]; exact hlen os ds _ hR
  · subst e1 e2
    have hl : (ceOf os).length = os.length := by unfold ceOf; rw [List.length_map]
    rw [hl]
    refine JSs.mono (body X F os ds _ hX hfn hH hT hR) (fun s ⟨os', h2, h1, h3⟩ => ?_) (fun e s ⟨os', h2, h1, h3⟩ => ?_) (fun _ z => z) (fun _ z => z)
    · have g := goes_owns h2
      rw [h1] at g
      exact ⟨[], _, by rw [List.append_nil]; exact g, h3 h1⟩
    · cases e with
      | d y =>
        have g := goes_owns h2
        rw [h1] at g
        exact ⟨[], _, .d y, by rw [List.append_nil]; exact g, rfl, rfl, h3 h1⟩
      | r j =>
        obtain ⟨kd, es, d2, q1, q2, q3, q4⟩ := h3
        rw [nth_eq, dsOf_eq q2] at q1
        have g := goes_owns1 h2 q1 (by rw [h1]; exact q3)
        rw [h1] at g
        refine ⟨[j], _, .r os.length, g, ?_, ?_, q4 h1⟩
        · show E.r j = E.r (jsF _ _ os.length)
          congr 1
          unfold jsF
          rw [nth_eq, List.getElem?_append_right (by rw [List.length_range]; exact Nat.le_refl _)]
          simp
        · simp [E.lt]
end
end DL
/-! ### texts: zfill, ord, int(text), index, startswith, many times; enumerate(text); whole numbers in a list -/
namespace DL
open PySem PySem.Spec PyProof.Rows L2
variable {X : Cx} {F : Fr} {s : S}
section
variable {e a b c o tg iter elt : Expr} {es rest elts : List Expr} {Φ : E → S → Prop} {Ψ : Bool → S → Prop} {pos p p2 tpos apos : Pos} {x : Str} {k B kk : Nat} {Θ : Nat → (Nat → E → Prop) → S → Prop}
/-- z.zfill(i) -/
theorem je_zfill (h : JE X F o s fun eo s1 => ∃ z, eo = .d (.str z) ∧ JE X F a s1 fun e1 s2 => ∃ i : Int, e1 = .d (.int i) ∧ PadOk i = true ∧ Φ (.d (.str (Txt.zfill z i))) s2)
    (ns : NoStar a := by intro _ _; rfl) (hbase : attributeBase o "zfill" X.env (eval o X.env) = eval o X.env := by rfl) (hline : (apos.endLine == pos.line) = true := by rfl) : JE X F (.Call (.Attribute o "zfill" apos) [a] [] pos) s Φ :=
  je_of (pe_m1 PySem.F.slot_str_zfill PySem.F.type_str_zfill mt_zfill (pe_sem X o) (pe_sem X a) (ns _ _) hbase hline) fun as G H σ Q c k => h as G H σ _ c fun v as1 G1 H1 eo s1 c1 x1 ve ⟨z, q1, h1⟩ => by
    subst q1
    cases ve
    refine ⟨⟨z, rfl⟩, h1 as1 G1 H1 σ _ c1 fun v2 as2 G2 H2 e2 s2 c2 x2 ve2 ⟨i, q2, q3, q4⟩ => ?_⟩
    subst q2
    cases ve2
    exact ⟨z, i, rfl, rfl, q3, k _ as2 G2 H2 _ s2 c2 (x1.trans x2) (Rep.str _) q4⟩
/-- z.startswith(y) -/
theorem je_starts (h : JE X F o s fun eo s1 => ∃ z, eo = .d (.str z) ∧ JE X F a s1 fun e1 s2 => ∃ y, e1 = .d (.str y) ∧ Φ (.d (.bl (Txt.startswith z y))) s2)
    (ns : NoStar a := by intro _ _; rfl) (hbase : attributeBase o "startswith" X.env (eval o X.env) = eval o X.env := by rfl) (hline : (apos.endLine == pos.line) = true := by rfl) : JE X F (.Call (.Attribute o "startswith" apos) [a] [] pos) s Φ :=
  je_of (pe_m1 PySem.F.slot_str_startswith PySem.F.type_str_startswith mt_startswith (pe_sem X o) (pe_sem X a) (ns _ _) hbase hline) fun as G H σ Q c k => h as G H σ _ c fun v as1 G1 H1 eo s1 c1 x1 ve ⟨z, q1, h1⟩ => by
    subst q1
    cases ve
    refine ⟨⟨z, rfl⟩, h1 as1 G1 H1 σ _ c1 fun v2 as2 G2 H2 e2 s2 c2 x2 ve2 ⟨y, q2, q4⟩ => ?_⟩
    subst q2
    cases ve2
    exact ⟨z, y, rfl, rfl, k _ as2 G2 H2 _ s2 c2 (x1.trans x2) (Rep.bl _) q4⟩
/-- z.index(y), y is there -/
theorem je_sindex (h : JE X F o s fun eo s1 => ∃ z, eo = .d (.str z) ∧ JE X F a s1 fun e1 s2 => ∃ y i r, e1 = .d (.str y) ∧ Builtin.Str.occurrences z y 0 z.length 1 = i :: r ∧ Φ (.d (.int (i : Nat))) s2)
    (ns : NoStar a := by intro _ _; rfl) (hbase : attributeBase o "index" X.env (eval o X.env) = eval o X.env := by rfl) (hline : (apos.endLine == pos.line) = true := by rfl) : JE X F (.Call (.Attribute o "index" apos) [a] [] pos) s Φ :=
  je_of (pe_m1 PySem.F.slot_str_index PySem.F.type_str_index mt_sindex (pe_sem X o) (pe_sem X a) (ns _ _) hbase hline) fun as G H σ Q c k => h as G H σ _ c fun v as1 G1 H1 eo s1 c1 x1 ve ⟨z, q1, h1⟩ => by
    subst q1
    cases ve
    refine ⟨⟨z, rfl⟩, h1 as1 G1 H1 σ _ c1 fun v2 as2 G2 H2 e2 s2 c2 x2 ve2 ⟨y, i, r, q2, q3, q4⟩ => ?_⟩
    subst q2
    cases ve2
    exact ⟨z, y, i, r, rfl, rfl, q3, k _ as2 G2 H2 _ s2 c2 (x1.trans x2) (Rep.int _) q4⟩
/-- ord(x) -/
theorem je_ord (g : GlB X "ord") (h : JE X F a s fun e s1 => ∃ cp : Nat, e = .d (.str ⟨#[cp]⟩) ∧ Φ (.d (.int (cp : Int))) s1) (ns : NoStar a := by intro _ _; rfl) : JE X F (.Call (.Name "ord" p) [a] [] pos) s Φ :=
  je_cb call_ord g PyProof.Rows.boot_ord (ja_cons (h.mono fun e s1 ⟨cp, ei, q⟩ => ja_nil fun as G H σ vs Q c ves k => by
    subst ei
    cases ves with
    | cons ve t => cases t; cases ve; exact ⟨_, rfl, rfl, k _ as G H _ s1 c (Ext.refl _ _) (Rep.int _) q⟩) (ns _ _)) (he := ns _ _)
/-- int(text) -/
theorem je_ints (g : GlB X "int") (h : JE X F a s fun e s1 => ∃ z n, e = .d (.str z) ∧ PySem.intText? z = some n ∧ z.length ≤ 640 ∧ Φ (.d (.int n)) s1) (ns : NoStar a := by intro _ _; rfl) : JE X F (.Call (.Name "int" p) [a] [] pos) s Φ :=
  je_ct call_int_str g PyProof.Rows.boot_int (ja_cons (h.mono fun e s1 ⟨z, n, ei, h1, h2, q⟩ => ja_nil fun as G H σ vs Q c ves k => by
    subst ei
    cases ves with
    | cons ve t => cases t; cases ve; exact ⟨z, n, rfl, h1, h2, k _ as G H _ s1 c (Ext.refl _ _) (Rep.int _) q⟩) (ns _ _)) (he := ns _ _)
end
/-- a short text many times -/
def rMulS2 : R2 := fun x y H Q => ∃ z n, x = .str z ∧ y = .int n ∧ z.length ≤ 100 ∧ 0 ≤ n ∧ n ≤ 10000 ∧ Q (.str (repS z n.toNat)) H
theorem op_mulS2 : OpR X (binaryOp .Mult) rMulS2 := by
  intro pins st σ H x y v u Q I rx ry h
  obtain ⟨z, n, rfl, rfl, h1, h2, h3, q⟩ := h
  obtain ⟨t, rfl⟩ := rx
  obtain ⟨t2, rfl⟩ := ry
  have hmul : z.length * n.toNat ≤ 1000000 := Nat.le_trans (Nat.mul_le_mul h1 (show n.toNat ≤ 10000 by omega)) (by decide)
  refine PySem.P.mul_str (by simp; omega) (fun hn hz => ?_) (fun hn hz => ?_) ?_
  · have h4 : (1000 : Int) ≤ (2 ^ 63 - 1) / n := Int.le_ediv_of_mul_le (by omega) (by omega)
    omega
  · have : z.length * n.toNat ≤ sizeLine := Nat.le_trans hmul (by rw [sizeLine_eq]; decide)
    exact decide_eq_false (by omega)
  · by_cases h0 : n < 1
    · have : n = 0 := by omega
      subst this
      rw [if_pos (by decide)]
      exact ⟨by decide, ⟨.str _, H, I.tok _, ⟨_, rfl⟩, q⟩⟩
    · rw [if_neg h0]
      by_cases h5 : (n == 1 || z.length == 0) = true
      · rw [if_pos h5]
        have e : repS z n.toNat = z := by
          rcases Bool.or_eq_true_iff.mp h5 with h6 | h6
          · have : n = 1 := by simpa using h6
            subst this
            show (⟨#[] ++ z.cps⟩ : Str) = z
            rw [Array.empty_append]
          · have h7 : z.length = 0 := by simpa using h6
            have h8 := repS_len z n.toNat
            rw [h7, Nat.mul_zero] at h8
            obtain ⟨cz⟩ := z
            have a1 : cz = #[] := Array.eq_empty_of_size_eq_zero h7
            have a2 : (repS ⟨cz⟩ n.toNat).cps = #[] := Array.eq_empty_of_size_eq_zero h8
            subst a1
            exact congrArg Str.mk a2
        rw [e] at q
        exact ⟨.str z, H, I, ⟨_, rfl⟩, q⟩
      · rw [if_neg h5]
        refine ⟨?_, ⟨.str _, H, I.tok _, ⟨_, rfl⟩, q⟩⟩
        show (repS z n.toNat).length ≤ _
        rw [repS_len, Nat.mul_comm]
        exact Nat.le_trans hmul (by rw [sizeLine_eq]; decide)
theorem jr_mulS2 {Φ : E → S → Prop} {z : Str} {n : Int} (h1 : z.length ≤ 100) (h2 : 0 ≤ n ∧ n ≤ 10000) (q : Φ (.d (.str (repS z n.toNat))) s) : JR X F (binaryOp .Mult) (.d (.str z)) (.d (.int n)) s Φ :=
  jr_of op_mulS2 fun as G H σ x y Q c v1 v2 k => by
    cases v1
    cases v2
    exact ⟨z, n, rfl, rfl, h1, h2.1, h2.2, k _ as G H _ s c (Ext.refl _ _) (Rep.str _) q⟩
theorem inV_ints {z : Int} : ∀ ts : List Int, inV (.int z) (ts.map V.int) = decide (z ∈ ts)
  | [] => by simp [inV]
  | t :: ts => by
    have ih := inV_ints (z := z) ts
    unfold inV at ih ⊢
    rw [List.map_cons, List.any_cons, ih]
    by_cases h : z = t
    · subst h; simp [eqV]
    · have h2 : ¬ t = z := fun q => h q.symm
      simp [eqV, h, h2]
theorem flat_ints (ts : List Int) : (ts.map V.int).all flatV = true := by
  rw [List.all_map, List.all_eq_true]
  intro t _
  rfl
/-- turns over a text, the places told -/
def IteS (x : Str) : It := ⟨fun i _ => i < x.cps.size, fun i H v H' => ∃ T c, v = .ref T ∧ H T = none ∧ H' = upd H T (.tup [.int (i : Nat), .str ⟨#[c]⟩]) ∧ x.cps[i]? = some c, fun i _ => i = x.cps.size⟩
theorem turn_enumS {P : Program} {w : World} {K : PySem.W.Frag} {elts : List Expr} {kk : Nat} {tpos : Pos} (x : Str) (t : Tok) (ty : String) (hty : ty = "str_ascii_iterator" ∨ ty = "str_iterator") (e it : Addr) :
    Turn P w K (.Tuple elts kk tpos) (IteS x) [e, it] e (fun i h => (∃ old, IsEnum h e it ((i : Nat) : Int) old) ∧ h.IsStrIter it ty x t i ∧ e ≠ it) where
  mem := by simp
  obj := fun i h st b hb => by
    obtain ⟨⟨old, he⟩, ⟨o, ho, hc, hd⟩, _⟩ := st
    have e' : b = e ∨ b = it := by simpa using hb
    rcases e' with z | z
    · rw [z]; exact ⟨_, he, fun v q => nomatch q⟩
    · rw [z]; exact ⟨o, ho, fun v q => by rw [hd] at q; cases q⟩
  keep := fun i h h' st k => let ⟨⟨old, he⟩, ⟨o, ho, r⟩, hne⟩ := st; ⟨⟨old, k e (by simp) _ he⟩, ⟨o, k it (by simp) _ ho, r⟩, hne⟩
  item := by
    intro X hP hw hK hc i pins s σ H E I hf st hg
    subst hP hw hK
    obtain ⟨⟨old, he⟩, hit, hne⟩ := st
    have hg : i < x.cps.size := hg
    have hel : e < s.heap.objs.size := Heap.lt_size he
    have hil : it < s.heap.objs.size := by obtain ⟨_, q, _⟩ := hit; exact Heap.lt_size q
    have D : Draws X.prog X.w X.A.in1 it [it] x.cps.size (fun i v => ∃ c u, x.cps[i]? = some c ∧ v = .str ⟨#[c]⟩ u) (fun i h => h.IsStrIter it ty x t i) := by
      rcases hty with z | z
      · rw [z]; exact Draws.strAscii (A := X.A.in1) (I.ok.hd hc) it x t
      · rw [z]; exact Draws.strWide (A := X.A.in1) (I.ok.hd hc) it x t
    refine wpAny_pyNext_enum_itemD (w := X.w) D he hit hg hne (by simpa using hne) fun u h' tk hu ho hit' hT hsz hk => ?_
    obtain ⟨c, tu, hcx, rfl⟩ := hu
    refine ⟨_, rfl, wpAny_letOwnedTupleGo_enum (s := { s with heap := h', toks := tk + 1 }) ho fun h'' he' sb => ?_⟩
    have hT2 : h''.get? s.heap.objs.size = some { cls := .type "tuple", data := .seq #[.int i tk, .str ⟨#[c]⟩ tu] } := (sb.2 _ (Nat.ne_of_gt hel)).trans hT
    have new : ObjOk X.prog X.w (upd H s.heap.objs.size (.tup [.int (i : Nat), .str ⟨#[c]⟩])) h'' s.heap.objs.size (.tup [.int (i : Nat), .str ⟨#[c]⟩]) :=
      ⟨by show 2 ≤ sizeLine; decide, [.int i tk, .str ⟨#[c]⟩ tu], .cons ⟨_, rfl⟩ (.cons ⟨_, rfl⟩ .nil), ⟨_, hT2, rfl, _, rfl⟩⟩
    have I1 : Inv X pins σ (upd H s.heap.objs.size (.tup [.int (i : Nat), .str ⟨#[c]⟩])) { s with heap := h'', toks := tk + 1 } :=
      I.turnedNew (ch := [e, it]) (fun b ob hb q => (sb.2 b (fun z => hb (by simp [z]))).trans (hk b ob (fun z => hb (by simp [z])) (fun z => hb (by simp [z])) q)) hf (Nat.le_refl _) new
    refine ⟨.ref s.heap.objs.size, _, I1, rfl, ⟨_, c, rfl, I.hok.fresh (Nat.le_refl _), rfl, hcx⟩, ⟨⟨.str ⟨#[c]⟩ tu, ?_⟩, ?_, hne⟩, fun b hb => ?_⟩
    · have e1 : ((i + 1 : Nat) : Int) = (i : Int) + 1 := by omega
      rw [e1]; exact he'
    · obtain ⟨o, q, r⟩ := hit'
      exact ⟨o, (sb.2 it (Ne.symm hne)).trans q, r⟩
    · have hb' : b < s.heap.objs.size := by
        have e' : b = e ∨ b = it := by simpa using hb
        rcases e' with z | z
        · rw [z]; exact hel
        · rw [z]; exact hil
      rw [upd_ne (Nat.ne_of_lt hb')]
      exact (hf b hb).1
  done := by
    intro X hP hw hK hc i pins s σ H E I hf st hg
    subst hP hw hK
    obtain ⟨⟨old, he⟩, hit, hne⟩ := st
    have hg : i = x.cps.size := hg
    subst hg
    obtain ⟨f0, f1, f2, f3, f4, f5⟩ := hf it (by simp)
    have D : Draws X.prog X.w X.A.in1 it [it] x.cps.size (fun i v => ∃ c u, x.cps[i]? = some c ∧ v = .str ⟨#[c]⟩ u) (fun i h => h.IsStrIter it ty x t i) := by
      rcases hty with z | z
      · rw [z]; exact Draws.strAscii (A := X.A.in1) (I.ok.hd hc) it x t
      · rw [z]; exact Draws.strWide (A := X.A.in1) (I.ok.hd hc) it x t
    exact wpAny_pyNext_enum_endD D he hit fun h' eb => ⟨rfl, I.turned (t' := s.toks) (fun b o hb q => eb b o hb q) f0 f1 f3 f4 f5⟩
  self := fun A i s Q E st h => let ⟨⟨_, he⟩, _⟩ := st; wpAny_pyIter_enum he h
def iEnumS (ta : TA) : TI := fun σ H R => ta σ H fun vs H1 => ∃ x, vs = [.str x] ∧ R (IteS x) H1
theorem pi_enumS {X : Cx} {e : Expr} {ta : TA} {p pos tpos : Pos} {elts : List Expr} {kk : Nat} (hg : Gl X "enumerate") (hm : X.mg "enumerate" = none) (ha : PA X [e] ta) (hs : starEach [e] X.env = [(false, eval e X.env)] := by rfl) :
    PI X (.Tuple elts kk tpos) (.Call (.Name "enumerate" p) [e] [] pos) (iEnumS ta) := by
  refine ⟨fun pins s σ H R I h => ?_⟩
  refine Call_ (ld_blt I hg hm boot_enumerate (PyProof.Rows.callWith_type1 (thn (ha.run pos pins s σ H _ I h) fun us s1 ⟨vs, H1, I1, r1, q1⟩ => ?_) hs rfl))
  obtain ⟨x, ex, q⟩ := q1
  subst ex
  cases r1 with
  | cons r rr =>
    cases rr
    obtain ⟨t, rfl⟩ := r
    refine call_enumerate_str fun h' he hit hsz hk => wpAny_pyIter_enum he ?_
    have I2 : Inv X pins σ H1 { s1 with heap := h' } := I1.kept (t' := s1.toks) hk
    have hty : strIterType x = "str_ascii_iterator" ∨ strIterType x = "str_iterator" := by
      unfold strIterType
      split
      · exact .inl rfl
      · exact .inr rfl
    refine ⟨s1.heap.objs.size + 1, [s1.heap.objs.size + 1, s1.heap.objs.size], _, _, H1, rfl, I2, turn_enumS x t (strIterType x) hty (s1.heap.objs.size + 1) s1.heap.objs.size, ⟨⟨.none, he⟩, hit, Nat.succ_ne_self _⟩, fun b hb => ?_, q⟩
    have e' : b = s1.heap.objs.size + 1 ∨ b = s1.heap.objs.size := by simpa using hb
    have hle : s1.heap.objs.size ≤ b := by
      rcases e' with z | z
      · rw [z]; exact Nat.le_add_right _ _
      · rw [z]; exact Nat.le_refl _
    exact I1.fpOk hle (I1.hok.fresh hle)
section
variable {e a b c o tg iter elt : Expr} {es rest elts : List Expr} {Φ : E → S → Prop} {Ψ : Bool → S → Prop} {pos p p2 tpos apos : Pos} {x : Str} {k B kk : Nat} {Θ : Nat → (Nat → E → Prop) → S → Prop}
/-- for i, c in enumerate(text) -/
def itES (z : Str) : Nat → E → Prop := fun i e => ∃ cp, z.cps[i]? = some cp ∧ e = .d (.nd .tup [.int i, .str ⟨#[cp]⟩])
theorem ji_enumS (g : GlB X "enumerate") (h : JE X F a s fun e s1 => ∃ z, e = .d (.str z) ∧ Θ z.cps.size (itES z) s1) (ns : NoStar a := by intro _ _; rfl) : JI X F (.Tuple elts kk tpos) (.Call (.Name "enumerate" p) [a] [] pos) s Θ := fun as G H σ R c k =>
  PI.sem (pi_enumS g.gl g.mg (pa_cons (pe_sem X a) pa_nil (ns _ _)) (ns _ _)) (h as G H σ _ c fun v as1 G1 H1 e1 s1 c1 x1 ve ⟨z, e2, q⟩ => by
    subst e2
    cases ve
    refine ⟨z, rfl, k (IteS z) as1 G1 H1 s1 z.cps.size (itES z) c1 x1 ?_ q⟩
    refine ⟨fun as' G' H' σ' s' c' x => rfl, fun i as' G' H' σ' s' hi c' x => hi, fun i as' G' H' σ' s' y H2 hi c' x q => ?_, fun i as' G' H' σ' s' y H2 hi c' x q => ?_⟩
    · obtain ⟨T, cp, rfl, hT, rfl, g1⟩ := q
      have sg : Same G' (upd G' T (.tup [.int i, .str ⟨#[cp]⟩])) := same_new (c'.gnone hT)
      refine ⟨upd G' T (.tup [.int i, .str ⟨#[cp]⟩]), .d (.nd .tup [.int i, .str ⟨#[cp]⟩]), c'.addG hT, ⟨sg, fun b0 hb hg => ?_⟩, ?_, cp, g1, rfl⟩
      · rw [upd_ne (fun z => hb (by rw [z]; exact hT))]; exact hg
      · exact .nd (k := .tup) (SqT.of upd_same) (.cons (.int _) (.cons (.str _) .nil))
    · obtain ⟨T, cp, rfl, hT, rfl, g1⟩ := q
      exact same_new hT)
/-- n in a list of whole numbers -/
theorem jr_inInts {e2 : E} {z : Int} {kd : Kd} {ts : List Int} (h : s.node e2 = some (kd, (ts.map D.int).map .d)) (hk : kd = .lst ∨ kd = .tup) (q : Φ (.d (.bl (decide (z ∈ ts)))) s) : JR X F (compareOp .In) (.d (.int z)) e2 s Φ := jr_of op_in_seq fun as G H σ x y Q c v1 v2 kk => by
    cases v1
    obtain ⟨a, vs, rfl, n, ves⟩ := c.node v2 h
    obtain rfl := vs_ints ves.reps
    refine ⟨a, _, rfl, ?_, rfl, flat_ints ts, ?_⟩
    · rcases hk with rfl | rfl
      · exact .inl n
      · exact .inr n
    · rw [inV_ints]; exact kk _ as G H _ s c (Ext.refl _ _) (Rep.bl _) q
theorem jr_ninInts {e2 : E} {z : Int} {kd : Kd} {ts : List Int} (h : s.node e2 = some (kd, (ts.map D.int).map .d)) (hk : kd = .lst ∨ kd = .tup) (q : Φ (.d (.bl (!decide (z ∈ ts)))) s) : JR X F (compareOp .NotIn) (.d (.int z)) e2 s Φ := jr_of op_notIn_seq fun as G H σ x y Q c v1 v2 kk => by
    cases v1
    obtain ⟨a, vs, rfl, n, ves⟩ := c.node v2 h
    obtain rfl := vs_ints ves.reps
    refine ⟨a, _, rfl, ?_, rfl, flat_ints ts, ?_⟩
    · rcases hk with rfl | rfl
      · exact .inl n
      · exact .inr n
    · rw [inV_ints]; exact kk _ as G H _ s c (Ext.refl _ _) (Rep.bl _) q
end
end DL
/-! ### exceptions without fields; isinstance where one is handled -/
namespace DL
open PySem PySem.Spec PyProof.Rows L2
section
variable {X : Cx} {C : Addr} {bmB : List Value} {B newId initId : String}
/-- X() -/
theorem pmk_own0 {x : Str} {p pos : Pos} (F : ExcBaseFacts B newId initId bmB) (q : PySem.W.excIn X.K C bmB newId = true) (gC : X.mg x = some (.ref C)) (kC : PySem.W.keepIn X.K (.ref C) = true) (r : Raises X (.ref C)) (hg : Gl X x)
    (hdb : (x == ("__debug__" : Str)) = false := by decide) : PMk X (.Call (.Name x p) [] [] pos) (fun _ H Q => Q (.ref C) none H) := by
  intro pins s σ H Q I h
  refine wpAny_Call_Name_kw (ld_glob I hg gC ?_ hdb)
  refine PySem.W.callWith_K0 I.kIn kC ?_
  show wpAny _ _ (call (.ref C) []) _ _ _
  obtain ⟨bm, N, nm, qn, bs, hdct, sn, sub, ab, col, dd, k0, k1, k2, k3, k5, mN, hC, hN, hni, T⟩ := exc_obj I.kIn q
  refine wpAny_call_exc_subT F T hC hN hni (fun h' e hm => ?_) (by show 0 ≤ sizeLine; exact Nat.zero_le _)
  exact mk_of I hm r h (I.hok.gone hm.new)
end
/-- a class without an __init__ of its own, told whole -/
structure ExC0 (K : PySem.W.Frag) (C : Addr) : Prop where
  q : PySem.W.excIn K C [.type "ValueError", .type "Exception", .type "BaseException", .type "object"] "ValueError.__new__" = true
  kC : PySem.W.keepIn K (.ref C) = true
  sb : PySem.W.subIn K (.ref C) (.type "BaseException") = some true
  ty : PySem.W.typeIn K (.ref C) = some (.type "type")
section
variable {X Y : Cx} {F : Fr} {s : S} {e : Expr} {Φ : E → S → Prop} {pos p p3 pos2 : Pos} {nm dn : Str} {B : Nat} {C a : Addr} {o : Option Addr} {W : Ex → S → Prop} {sts : List Stmt} {P : Po} {Dv : Value}
theorem js_raise0 (tk : TkX X F W) (bx : Bx X B) (T : ExC0 X.K C) (hg : Gl X nm) (hm : X.mg nm = some (.ref C)) (h : W ⟨C, [], []⟩ s)
    (hdb : (nm == ("__debug__" : Str)) = false := by decide) : JS X F (.Raise (some (.Call (.Name nm p) [] [] pos)) none pos2) s P := by
  obtain ⟨WW, tk, hw⟩ := tk
  intro as G H σ D c k
  exact PS.sem (ps_raise bx.calm tk (pmk_own0 PySem.F.excBase_ValueError T.q hm T.kC (raises_own T.sb T.ty) hg hdb)) (hw as G H σ s ⟨C, [], []⟩ none c ⟨[], rfl, .nil, fun z => (z rfl).elim, fun _ z => by cases z⟩ h)
theorem jss_raise0 (tk : TkX X F W) (bx : Bx X B) (T : ExC0 X.K C) (hg : Gl X nm) (hm : X.mg nm = some (.ref C)) (h : W ⟨C, [], []⟩ s)
    (hdb : (nm == ("__debug__" : Str)) = false := by decide) : JSs X F (.Raise (some (.Call (.Name nm p) [] [] pos)) none pos2 :: sts) s P := jss_cons (js_raise0 tk bx T hg hm h hdb)
theorem pe_isY {te : TE} {oe : Obj} {pn : List (Addr × Obj)} (hz : Zc (.ref C) o oe) (g : GlB X "isinstance") (hD : Names X dn Dv) (hk : PySem.W.kitCls X.K (.ref C) Dv = some true) (ne : ((Value.ref C) == Dv) = false) (he : PE (X.suite a ((a, oe) :: pn)) e te)
    (h1 : starEach [e, .Name dn p3] X.env = (false, eval e X.env) :: starEach [.Name dn p3] X.env := by rfl) (h2 : (backTo pos (starEach [.Name dn p3] X.env)).any (·.1) = false := by rfl) :
    PE (X.suite a ((a, oe) :: pn)) (.Call (.Name "isinstance" p) [e, .Name dn p3] [] pos) (fun σ H Q => te σ H fun x H' => x = .ref a ∧ Q (.bl true) H') := by
  refine ⟨fun pins st σ H Q I h => ?_⟩
  have hgS : Gl (X.suite a ((a, oe) :: pn)) "isinstance" := g.gl
  refine wpAny_Call_Name_kw (ld_blt I hgS g.mg PyProof.Rows.boot_isinstance ?_ (by decide) (by decide))
  refine PyProof.Rows.callWith_builtin1 ?_ h1 h2
  rw [show starEach [e, .Name dn p3] (X.suite a ((a, oe) :: pn)).env = _ from h1]
  show wpAny _ _ (spliced ((false, eval e X.env) :: backTo pos (starEach [.Name dn p3] X.env))) _ _ st
  refine Calls.spliced_cons (thn (he.run pins st σ H _ I h) fun u s1 ⟨v, H1, J1, rv, ev, q⟩ => ?_)
  subst ev
  obtain rfl : u = .ref a := rv
  have named : ∀ {Q : Value → Shared → Prop} {E : Value → Shared → Prop}, Q Dv s1 → wpAny (model X.prog X.w) (X.suite a ((a, oe) :: pn)).A (eval (.Name dn p3) (X.suite a ((a, oe) :: pn)).env) Q E s1 := by
    intro Q E q
    rcases hD with ⟨hg, hdb, hm | ⟨hm, hv, hn⟩⟩
    · exact ld_glob J1 (X := X.suite a ((a, oe) :: pn)) hg hm q hdb
    · exact ld_blt J1 (X := X.suite a ((a, oe) :: pn)) hg hm hv q hn hdb
  show wpAny _ _ (spliced ((false, eval (.Name dn p3) X.env) :: [])) _ _ s1
  refine Calls.spliced_cons (named (Calls.spliced_nil ?_))
  obtain ⟨hget, _⟩ := J1.pin (a, oe) (List.mem_append.mpr (.inl List.mem_cons_self))
  exact PySem.W.yes_one (G := fun h => ∃ o, h.get? a = some o ∧ o.cls = .ref C) (fun M h X' ⟨o, e1, e2⟩ A Q E s2 k2 q2 => wpAny_typeOf_ref (k2 _ _ e1) (by rw [e2]; exact q2)) ne hk J1.kIn ⟨oe, hget, hz.1⟩ (fun z => by cases z) fun tk => ⟨.bl true, H1, J1.tok tk, rfl, q⟩
/-- isinstance(e, D), e the exception that is handled, D one of its class's bases -/
theorem je_isY (hY : IsSu X C o a Y) (g : GlB X "isinstance") (hD : Names X dn Dv) (hk : PySem.W.kitCls X.K (.ref C) Dv = some true) (ne : ((Value.ref C) == Dv) = false)
    (h : JE Y F e s fun e1 s1 => ∃ fs ds, e1 = .d (.nd (.exc a o C fs) ds) ∧ Φ (.d (.bl true)) s1)
    (h1 : starEach [e, .Name dn p3] X.env = (false, eval e X.env) :: starEach [.Name dn p3] X.env := by rfl) (h2 : (backTo pos (starEach [.Name dn p3] X.env)).any (·.1) = false := by rfl) :
    JE Y F (.Call (.Name "isinstance" p) [e, .Name dn p3] [] pos) s Φ := by
  obtain ⟨oe, pn, rfl, hz, hf⟩ := hY
  exact je_of (pe_isY hz g hD hk ne (pe_sem _ e) h1 h2) fun as G H σ Q c kk => h as G H σ _ c fun v as1 G1 H1 e1 s1 c1 x1 ve ⟨fs, ds, e2, q⟩ => by
    subst e2
    cases ve with
    | nd n r =>
      obtain ⟨ea, _⟩ := n
      subst ea
      exact ⟨rfl, kk (.bl true) as1 G1 H1 (.d (.bl true)) s1 c1 x1 (Rep.bl true) q⟩
end
end DL
/-! ### f() -/
namespace DL
open PySem PySem.Spec PyProof.Rows L2
variable {X : Cx} {F : Fr} {s : S}
theorem je_call0 {R : RP} {Φ : E → S → Prop} {pos p : Pos} {x : Str} {k B : Nat} (cb : CbP X x k R) (bx : Bx X B) (hB : k ≤ B) (h : R [] (RtΦ Φ s)) (hdb : (x == ("__debug__" : Str)) = false := by decide) : JE X F (.Call (.Name x p) [] [] pos) s Φ := by
  obtain ⟨f, fd, ps, h1, h2, h3, h4⟩ := cb.ex
  refine je_of (pe_call0 h4 (bx.room.mono hB) cb.gl h1 h2 h3 .nil pass0 hdb) fun as G H σ Q c kk => ?_
  refine ⟨G, [], c.sub, .nil, cb.mono [] _ _ (fun r hr v G' H' q1 q2 q3 q4 q5 => ?_) h⟩
  have c2 := c.call q1 q2 q3 q4
  have x2 : Ext as as G G' := ⟨List.prefix_refl _, q2⟩
  cases r with
  | dat y => exact kk v as G' H' (.d y) s c2 x2 q5 hr
  | new kd ds' =>
    obtain ⟨b, ws, rfl, w1, w2, w3, w4⟩ := q5
    have c3 := c2.grow (kd := kd) (es := ds'.map .d) w2 (c.notin w1) (c.h0none w1) w3 (VEs.ofReps w4)
    exact kk _ _ G' H' (.r s.ce.length) _ c3 (x2.trans ⟨pre_snoc, Same.refl _⟩) ⟨b, by rw [← c.len, List.getElem?_append_right (Nat.le_refl _)]; simp, rfl⟩ hr
end DL
/-! ### min(i, j), max(i, j); a text many times, its signs -/
namespace DL
open PySem PySem.Spec PyProof.Rows L2
variable {X : Cx} {F : Fr} {s : S}
section
variable {a b : Expr} {Φ : E → S → Prop} {pos p : Pos} {B : Nat}
theorem je_min2 (bx : Bx X B) (g : GlB X "min") (h : JE X F a s fun e1 s1 => JE X F b s1 fun e2 s2 => ∃ i j : Int, e1 = .d (.int i) ∧ e2 = .d (.int j) ∧ Φ (.d (.int (if j < i then j else i))) s2) (ns : NoStar a := by intro _ _; rfl) (ns2 : NoStar b := by intro _ _; rfl) :
    JE X F (.Call (.Name "min" p) [a, b] [] pos) s Φ :=
  je_cb (call_min2 bx.calm) g PyProof.Rows.boot_min (ja_cons (h.mono fun e1 s1 h1 => ja_cons (h1.mono fun e2 s2 ⟨i, j, q1, q2, q⟩ => ja_nil fun as G H σ vs Q c ves k => by
    subst q1
    subst q2
    cases ves with
    | cons v1 t =>
      cases t with
      | cons v2 t => cases t; cases v1; cases v2; exact ⟨i, j, rfl, k _ as G H _ s2 c (Ext.refl _ _) (Rep.int _) q⟩) (ns2 _ _)) (ns _ _)) (he := ns _ _) (hpl := by rw [ns2 [] X.env]; rfl)
theorem je_max2 (bx : Bx X B) (g : GlB X "max") (h : JE X F a s fun e1 s1 => JE X F b s1 fun e2 s2 => ∃ i j : Int, e1 = .d (.int i) ∧ e2 = .d (.int j) ∧ Φ (.d (.int (if j > i then j else i))) s2) (ns : NoStar a := by intro _ _; rfl) (ns2 : NoStar b := by intro _ _; rfl) :
    JE X F (.Call (.Name "max" p) [a, b] [] pos) s Φ :=
  je_cb (call_max2 bx.calm) g PyProof.Rows.boot_max (ja_cons (h.mono fun e1 s1 h1 => ja_cons (h1.mono fun e2 s2 ⟨i, j, q1, q2, q⟩ => ja_nil fun as G H σ vs Q c ves k => by
    subst q1
    subst q2
    cases ves with
    | cons v1 t =>
      cases t with
      | cons v2 t => cases t; cases v1; cases v2; exact ⟨i, j, rfl, k _ as G H _ s2 c (Ext.refl _ _) (Rep.int _) q⟩) (ns2 _ _)) (ns _ _)) (he := ns _ _) (hpl := by rw [ns2 [] X.env]; rfl)
end
theorem fold_app : ∀ (l : List (Array Nat)) (a : Array Nat), (l.foldl (· ++ ·) a).toList = a.toList ++ (l.map (·.toList)).flatten
  | [], a => by simp
  | b :: l, a => by rw [List.foldl_cons, fold_app l]; simp
theorem repS_mem {z : Str} {n : Nat} {c : Nat} (h : c ∈ (repS z n).cps.toList) : c ∈ z.cps.toList := by
  unfold repS at h
  rw [fold_app] at h
  simp only [Array.toList_empty, List.nil_append, List.map_replicate, List.mem_flatten, List.mem_replicate] at h
  obtain ⟨l, ⟨_, rfl⟩, h2⟩ := h
  exact h2
end DL
/-! ### the two sums, a code that tells two wrong signs -/
namespace SE
/-- the modulus -/
abbrev p : Nat := 99991
theorem p_div : ∀ d, 2 ≤ d → d ≤ 317 → ¬ d ∣ p := by
  have h : (List.range 318).all (fun d => decide (d < 2) || !decide (p % d = 0)) = true := by decide +kernel
  intro d h1 h2 hd
  have := List.all_eq_true.mp h d (List.mem_range.mpr (by omega))
  rw [Nat.mod_eq_zero_of_dvd hd] at this
  simp at this
  omega
theorem p_prime {m : Nat} (h0 : 0 < m) (h1 : m < p) : Nat.gcd m p = 1 := by
  refine Classical.byContradiction fun hg => ?_
  have g1 : Nat.gcd m p ∣ p := Nat.gcd_dvd_right m p
  have g2 : Nat.gcd m p ≤ m := Nat.gcd_le_left p h0
  have g3 : 0 < Nat.gcd m p := Nat.gcd_pos_of_pos_left p h0
  generalize hq : Nat.gcd m p = g at *
  obtain ⟨k, hk⟩ := g1
  have k2 : 2 ≤ k := by
    rcases k with _ | _ | k
    · omega
    · have : g = p := by omega
      omega
    · omega
  by_cases h : g ≤ 317
  · exact p_div g (by omega) h ⟨k, hk⟩
  · have hk3 : k ≤ 317 := by
      refine Classical.byContradiction fun z => ?_
      have : 318 * 318 ≤ g * k := Nat.mul_le_mul (by omega) (by omega)
      have : p = 99991 := rfl
      omega
    exact p_div k k2 hk3 ⟨g, by rw [Nat.mul_comm]; exact hk⟩
theorem cancelN {m a b : Nat} (h0 : 0 < m) (h1 : m < p) (h : m * a % p = m * b % p) : a % p = b % p := by
  have c : Nat.gcd p m = 1 := by rw [Nat.gcd_comm]; exact p_prime h0 h1
  rcases Nat.le_total a b with l | l
  · have : (m * b - m * a) % p = 0 := Nat.sub_mod_eq_zero_of_mod_eq h.symm
    rw [← Nat.mul_sub] at this
    have d : p ∣ b - a := Nat.Coprime.dvd_of_dvd_mul_left c (Nat.dvd_of_mod_eq_zero this)
    obtain ⟨k, hk⟩ := d
    have : b = a + p * k := by omega
    rw [this, Nat.add_mul_mod_self_left]
  · have : (m * a - m * b) % p = 0 := Nat.sub_mod_eq_zero_of_mod_eq h
    rw [← Nat.mul_sub] at this
    have d : p ∣ a - b := Nat.Coprime.dvd_of_dvd_mul_left c (Nat.dvd_of_mod_eq_zero this)
    obtain ⟨k, hk⟩ := d
    have : a = b + p * k := by omega
    rw [this, Nat.add_mul_mod_self_left]
/-! Fermat, by the product of all -/
def prodL : List Nat → Nat
  | [] => 1
  | a :: l => a * prodL l
theorem prod_perm {l m : List Nat} (h : l.Perm m) : prodL l = prodL m := by
  induction h with
  | nil => rfl
  | cons x _ ih => show x * _ = x * _; rw [ih]
  | swap x y l => show y * (x * _) = x * (y * _); rw [← Nat.mul_assoc, Nat.mul_comm y x, Nat.mul_assoc]
  | trans _ _ h1 h2 => rw [h1, h2]
theorem prod_map (m : Nat) : ∀ l : List Nat, prodL (l.map fun i => m * i % p) % p = m ^ l.length * prodL l % p
  | [] => by simp [prodL]
  | a :: l => by
    show (m * a % p) * prodL _ % p = m ^ (l.length + 1) * (a * prodL l) % p
    rw [Nat.mul_mod, prod_map m l, Nat.mod_mod, ← Nat.mul_mod, Nat.pow_succ]
    congr 1
    rw [Nat.mul_assoc, Nat.mul_assoc, Nat.mul_left_comm a, Nat.mul_left_comm m]
theorem prod_copr : ∀ l : List Nat, (∀ a ∈ l, 0 < a ∧ a < p) → Nat.gcd (prodL l) p = 1
  | [], _ => rfl
  | a :: l, h => by
    have h1 := p_prime (h a List.mem_cons_self).1 (h a List.mem_cons_self).2
    have h2 := prod_copr l fun b hb => h b (List.mem_cons_of_mem _ hb)
    exact Nat.Coprime.mul_left (k := p) h1 h2
theorem nodup_map {f : Nat → Nat} : ∀ {l : List Nat}, l.Nodup → (∀ a ∈ l, ∀ b ∈ l, f a = f b → a = b) → (l.map f).Nodup
  | [], _, _ => List.nodup_nil
  | a :: l, h, hi => by
    rw [List.map_cons, List.nodup_cons]
    refine ⟨fun z => ?_, nodup_map (List.nodup_cons.mp h).2 fun b hb c hc => hi b (List.mem_cons_of_mem _ hb) c (List.mem_cons_of_mem _ hc)⟩
    obtain ⟨b, hb, e⟩ := List.mem_map.mp z
    have := hi a List.mem_cons_self b (List.mem_cons_of_mem _ hb) e.symm
    subst this
    exact (List.nodup_cons.mp h).1 hb
theorem perm_of_sub : ∀ {l t : List Nat}, l.Nodup → (∀ x ∈ l, x ∈ t) → t.length ≤ l.length → l.Perm t
  | [], t, _, _, hl => by
    have : t = [] := List.length_eq_zero_iff.mp (by simpa using hl)
    rw [this]
  | a :: l, t, nd, h, hl => by
    have ha := h a List.mem_cons_self
    have ih := perm_of_sub (l := l) (t := t.erase a) (List.nodup_cons.mp nd).2 (fun x hx => by
      refine (List.mem_erase_of_ne ?_).mpr (h x (List.mem_cons_of_mem _ hx))
      intro e; subst e; exact (List.nodup_cons.mp nd).1 hx) (by
      rw [List.length_erase_of_mem ha]
      simp at hl
      omega)
    exact (List.Perm.cons a ih).trans (List.perm_cons_erase ha).symm
theorem fermat {m : Nat} (h0 : 0 < m) (h1 : m < p) : m ^ (p - 1) % p = 1 := by
  have nd : ((List.range (p - 1)).map (· + 1)).Nodup := nodup_map List.nodup_range fun a _ b _ e => by simpa using e
  generalize hl : (List.range (p - 1)).map (· + 1) = l at nd
  have len : l.length = p - 1 := by rw [← hl, List.length_map, List.length_range]
  have mem : ∀ a, a ∈ l ↔ 0 < a ∧ a < p := fun a => by
    rw [← hl, List.mem_map]
    constructor
    · rintro ⟨b, hb, rfl⟩
      have := List.mem_range.mp hb
      have : p = 99991 := rfl
      omega
    · intro h
      have : p = 99991 := rfl
      exact ⟨a - 1, List.mem_range.mpr (by omega), by omega⟩
  have pm : (l.map fun i => m * i % p).Perm l := by
    refine perm_of_sub (nodup_map nd fun a ha b hb e => ?_) (fun x hx => ?_) (by rw [List.length_map]; exact Nat.le_refl _)
    · have := cancelN h0 h1 e
      rw [Nat.mod_eq_of_lt ((mem a).mp ha).2, Nat.mod_eq_of_lt ((mem b).mp hb).2] at this
      exact this
    · obtain ⟨a, ha, rfl⟩ := List.mem_map.mp hx
      refine (mem _).mpr ⟨?_, Nat.mod_lt _ (by decide)⟩
      rcases Nat.eq_zero_or_pos (m * a % p) with z | z
      · have : a % p = 0 % p := cancelN h0 h1 (by rw [z]; simp)
        have h2 := (mem a).mp ha
        rw [Nat.mod_eq_of_lt h2.2] at this
        simp at this
        omega
      · exact z
  have e1 := prod_map m l
  rw [prod_perm pm, len] at e1
  have c := prod_copr l fun a ha => (mem a).mp ha
  have hp : 0 < prodL l % p ∧ prodL l % p < p := by
    refine ⟨?_, Nat.mod_lt _ (by decide)⟩
    rcases Nat.eq_zero_or_pos (prodL l % p) with z | z
    · have := Nat.gcd_eq_right (Nat.dvd_of_mod_eq_zero z)
      rw [this] at c
      exact absurd c (by decide)
    · exact z
  have e2 : (prodL l % p) * 1 % p = (prodL l % p) * (m ^ (p - 1)) % p := by
    rw [Nat.mul_one, Nat.mod_mod]
    conv => lhs; rw [e1]
    rw [Nat.mul_comm (prodL l % p), Nat.mul_mod (m ^ (p - 1)) (prodL l % p), Nat.mod_mod, ← Nat.mul_mod]
  have := cancelN hp.1 hp.2 e2
  rw [← this]
  rfl
end SE
namespace SE
abbrev P : Int := 99991
/-- T1: the numbers' sum; T2 k: the first times k, the next times k + 1, .. -/
def T1 : List Nat → Int
  | [] => 0
  | c :: l => ((c : Int) - 31) + T1 l
def T2 : Int → List Nat → Int
  | _, [] => 0
  | k, c :: l => k * ((c : Int) - 31) + T2 (k + 1) l
theorem T1_app : ∀ (l m : List Nat), T1 (l ++ m) = T1 l + T1 m
  | [], m => by simp [T1]
  | c :: l, m => by rw [List.cons_append, T1, T1, T1_app l m]; omega
theorem T2_app : ∀ (l m : List Nat) (k : Int), T2 k (l ++ m) = T2 k l + T2 (k + l.length) m
  | [], m, k => by simp [T2]
  | c :: l, m, k => by
    rw [List.cons_append, T2, T2, T2_app l m (k + 1), List.length_cons]
    have : k + 1 + (l.length : Int) = k + ((l.length + 1 : Nat) : Int) := by omega
    rw [this]; omega
/-- at how many places two lists differ -/
def df : List Nat → List Nat → Nat
  | a :: l, b :: m => (if a = b then 0 else 1) + df l m
  | _, _ => 0
theorem df_self : ∀ l : List Nat, df l l = 0
  | [] => rfl
  | a :: l => by rw [df, if_pos rfl, df_self l]
theorem df_comm : ∀ l m : List Nat, df l m = df m l
  | [], [] => rfl
  | [], _ :: _ => rfl
  | _ :: _, [] => rfl
  | a :: l, b :: m => by
    rw [df, df, df_comm l m]
    by_cases h : a = b
    · rw [if_pos h, if_pos h.symm]
    · rw [if_neg h, if_neg (Ne.symm h)]
theorem df_tri : ∀ l m n : List Nat, l.length = m.length → df l n ≤ df l m + df m n
  | [], [], n, _ => by cases n <;> exact Nat.zero_le _
  | a :: l, b :: m, [], _ => by simp [df]
  | a :: l, b :: m, c :: n, h => by
    have ih := df_tri l m n (by simpa using h)
    rw [df, df, df]
    by_cases h1 : a = b
    · subst h1
      by_cases h2 : a = c
      · simp [h2]; omega
      · simp [h2]; omega
    · by_cases h2 : a = c
      · subst h2; simp [h1]; omega
      · simp [h1, h2]; omega
theorem df_app : ∀ {l m l' m' : List Nat}, l.length = m.length → df (l ++ l') (m ++ m') = df l m + df l' m'
  | [], [], _, _, _ => by simp [df]
  | a :: l, b :: m, l', m', h => by
    rw [List.cons_append, List.cons_append, df, df, df_app (by simpa using h)]; omega
theorem df_zero : ∀ {l m : List Nat}, l.length = m.length → df l m = 0 → l = m
  | [], [], _, _ => rfl
  | a :: l, b :: m, h, e => by
    rw [df] at e
    by_cases h1 : a = b
    · subst h1
      rw [df_zero (l := l) (m := m) (by simpa using h) (by simpa using e)]
    · rw [if_neg h1] at e; omega
theorem df_ne {l m : List Nat} (hl : l.length = m.length) (h : l ≠ m) : 1 ≤ df l m := by
  rcases Nat.eq_zero_or_pos (df l m) with z | z
  · exact absurd (df_zero hl z) h
  · exact z
/-- signs: their numbers are 1 to 95 -/
def Ok (l : List Nat) : Prop := ∀ c ∈ l, 32 ≤ c ∧ c ≤ 126
theorem Ok.tail {a : Nat} {l : List Nat} (h : Ok (a :: l)) : Ok l := fun c hc => h c (List.mem_cons_of_mem _ hc)
/-- a difference between two signs -/
def Dl (d : Int) : Prop := d ≠ 0 ∧ -94 ≤ d ∧ d ≤ 94
theorem df_one : ∀ {l m : List Nat}, l.length = m.length → Ok l → Ok m → df l m = 1 → ∃ (i : Nat) (d : Int), i < l.length ∧ Dl d ∧ T1 l - T1 m = d ∧ ∀ k, T2 k l - T2 k m = (k + i) * d
  | [], [], _, _, _, h => by cases h
  | a :: l, b :: m, hl, ol, om, h => by
    rw [df] at h
    by_cases h1 : a = b
    · subst h1
      obtain ⟨i, d, h2, h3, h4, h5⟩ := df_one (l := l) (m := m) (by simpa using hl) ol.tail om.tail (by simpa using h)
      refine ⟨i + 1, d, by simpa using h2, h3, by rw [T1, T1]; omega, fun k => ?_⟩
      have := h5 (k + 1)
      rw [T2, T2]
      have e : k + ((i + 1 : Nat) : Int) = k + 1 + i := by omega
      rw [e, ← this]; omega
    · rw [if_neg h1] at h
      obtain rfl := df_zero (l := l) (m := m) (by simpa using hl) (by omega)
      have ha := ol a List.mem_cons_self
      have hb := om b List.mem_cons_self
      refine ⟨0, (a : Int) - b, by simp, ⟨by omega, by omega, by omega⟩, by rw [T1, T1]; omega, fun k => ?_⟩
      rw [T2, T2]
      have : (k + ((0 : Nat) : Int)) * ((a : Int) - b) = k * ((a : Int) - 31) - k * ((b : Int) - 31) := by
        rw [← Int.mul_sub]; congr 1 <;> omega
      rw [this]; omega
theorem df_two : ∀ {l m : List Nat}, l.length = m.length → Ok l → Ok m → df l m = 2 → ∃ (i j : Nat) (d e : Int), i < j ∧ j < l.length ∧ Dl d ∧ Dl e ∧ T1 l - T1 m = d + e ∧ ∀ k, T2 k l - T2 k m = (k + i) * d + (k + j) * e
  | [], [], _, _, _, h => by cases h
  | a :: l, b :: m, hl, ol, om, h => by
    rw [df] at h
    by_cases h1 : a = b
    · subst h1
      obtain ⟨i, j, d, e, h2, h2', h3, h3', h4, h5⟩ := df_two (l := l) (m := m) (by simpa using hl) ol.tail om.tail (by simpa using h)
      refine ⟨i + 1, j + 1, d, e, by omega, by simpa using h2', h3, h3', by rw [T1, T1]; omega, fun k => ?_⟩
      have := h5 (k + 1)
      rw [T2, T2]
      have e1 : k + ((i + 1 : Nat) : Int) = k + 1 + i := by omega
      have e2 : k + ((j + 1 : Nat) : Int) = k + 1 + j := by omega
      rw [e1, e2, ← this]; omega
    · rw [if_neg h1] at h
      obtain ⟨j, e, h2, h3, h4, h5⟩ := df_one (l := l) (m := m) (by simpa using hl) ol.tail om.tail (by omega)
      have ha := ol a List.mem_cons_self
      have hb := om b List.mem_cons_self
      refine ⟨0, j + 1, (a : Int) - b, e, by omega, by simpa using h2, ⟨by omega, by omega, by omega⟩, h3, by rw [T1, T1]; omega, fun k => ?_⟩
      rw [T2, T2]
      have := h5 (k + 1)
      have e1 : (k + ((0 : Nat) : Int)) * ((a : Int) - b) = k * ((a : Int) - 31) - k * ((b : Int) - 31) := by
        rw [← Int.mul_sub]; congr 1 <;> omega
      have e2 : k + ((j + 1 : Nat) : Int) = k + 1 + j := by omega
      rw [e1, e2, ← this]; omega
/-! modulo the prime -/
theorem mulP {a b : Int} (h : (a * b) % P = 0) (ha : a % P ≠ 0) : b % P = 0 := by
  have h1 : (a % P * (b % P)) % P = 0 := by rw [← Int.mul_emod]; exact h
  have a0 := Int.emod_nonneg a (show P ≠ 0 by decide)
  have a1 := Int.emod_lt_of_pos a (show 0 < P by decide)
  have b0 := Int.emod_nonneg b (show P ≠ 0 by decide)
  have b1 := Int.emod_lt_of_pos b (show 0 < P by decide)
  generalize a % P = x at *
  generalize hy : b % P = y at *
  obtain ⟨x, rfl⟩ := Int.eq_ofNat_of_zero_le a0
  obtain ⟨y, rfl⟩ := Int.eq_ofNat_of_zero_le b0
  have h2 : x * y % p = x * 0 % p := by
    have : ((x * y % p : Nat) : Int) = 0 := by rw [Int.natCast_emod, Int.natCast_mul]; exact h1
    simp
    omega
  have hP : P = 99991 := rfl
  have hp : p = 99991 := rfl
  have := cancelN (m := x) (by omega) (by omega) h2
  rw [Nat.mod_eq_of_lt (by omega)] at this
  simp at this
  omega
theorem smallP {d : Int} (h : d ≠ 0) (h1 : -P < d) (h2 : d < P) : d % P ≠ 0 := fun z => by
  have z : d % 99991 = 0 := z
  have hP : P = 99991 := rfl
  omega
theorem sums_one {l m : List Nat} (hl : l.length = m.length) (hn : l.length ≤ 90001) (ol : Ok l) (om : Ok m) (h : df l m = 1) : T1 l % P ≠ T1 m % P ∧ T2 1 l % P ≠ T2 1 m % P := by
  obtain ⟨i, d, h1, ⟨h2, h3, h4⟩, h5, h6⟩ := df_one hl ol om h
  have hP : P = 99991 := rfl
  refine ⟨fun z => ?_, fun z => ?_⟩
  · have : (T1 l - T1 m) % P = 0 := Int.emod_eq_emod_iff_emod_sub_eq_zero.mp z
    rw [h5] at this
    exact smallP h2 (by omega) (by omega) this
  · have : (T2 1 l - T2 1 m) % P = 0 := Int.emod_eq_emod_iff_emod_sub_eq_zero.mp z
    rw [h6] at this
    exact smallP h2 (by omega) (by omega) (mulP this (smallP (by omega) (by omega) (by omega)))
theorem sums_two {l m : List Nat} (hl : l.length = m.length) (hn : l.length ≤ 90001) (ol : Ok l) (om : Ok m) (h : df l m = 2) : ¬ (T1 l % P = T1 m % P ∧ T2 1 l % P = T2 1 m % P) := by
  obtain ⟨i, j, d, e, h1, h1', ⟨h2, h3, h4⟩, ⟨h2', h3', h4'⟩, h5, h6⟩ := df_two hl ol om h
  have hP : P = 99991 := rfl
  rintro ⟨z1, z2⟩
  have z1 : (T1 l - T1 m) % P = 0 := Int.emod_eq_emod_iff_emod_sub_eq_zero.mp z1
  have z2 : (T2 1 l - T2 1 m) % P = 0 := Int.emod_eq_emod_iff_emod_sub_eq_zero.mp z2
  rw [h5] at z1
  rw [h6] at z2
  have z1' : (d + e) % 99991 = 0 := z1
  have : d = -e := by omega
  subst this
  have e2 : (1 + (i : Int)) * -e + (1 + (j : Int)) * e = ((j : Int) - i) * e := by
    rw [Int.mul_neg, Int.sub_mul, Int.add_mul, Int.add_mul]; omega
  rw [e2] at z2
  exact smallP h2' (by omega) (by omega) (mulP z2 (smallP (by omega) (by omega) (by omega)))
end SE
namespace SE
open PySem PySem.Spec PyProof.Rows
/-- five digits -/
def z5 (n : Int) : Str := Txt.zfill (Str.ofString (toString n)) 5
def dg (n : Int) : List Nat := (z5 n).cps.toList
theorem dgVal_zeros (k : Nat) (l : List Nat) : NumText.digitsVal (List.replicate k 48 ++ l) = NumText.digitsVal l := by
  induction k with
  | zero => simp
  | succ k ih => rw [List.replicate_succ, List.cons_append]; exact ih
theorem dg_all {n : Int} (h0 : 0 ≤ n) (h1 : n < 100000) : (dg n).length = 5 ∧ NumText.AllDigits (dg n) ∧ ((NumText.digitsVal (dg n) : Nat) : Int) = n := by
  obtain ⟨m, rfl⟩ := Int.eq_ofNat_of_zero_le h0
  have hm : m < 10 ^ 5 := by omega
  have hl := PyProof.Rows.digits10_le (k := 5) (by decide) hm
  have hsn := PySem.W.KIN.signs_num m
  generalize hx : Str.ofString (toString ((m : Nat) : Int)) = x at hsn
  have hlen : x.length = (Nat.toDigits 10 m).length := by
    show x.cps.size = _
    rw [← Array.length_toList, hsn, List.length_map]
  have hd : NumText.AllDigits x.cps.toList := by
    intro c hc
    rw [hsn] at hc
    obtain ⟨ch, hch, e⟩ := List.mem_map.mp hc
    have r := PyProof.Rows.digit_range (Nat.isDigit_of_mem_toDigits (by decide) (by decide) hch)
    rw [← e]
    exact r
  have hv : NumText.digitsVal x.cps.toList = m := by rw [hsn]; exact PySem.W.KIN.val_back m
  have hz : dg (m : Int) = List.replicate (5 - x.length) 48 ++ x.cps.toList := by
    show (Txt.zfill (Str.ofString (toString ((m : Nat) : Int))) 5).cps.toList = _
    rw [hx]
    unfold Txt.zfill
    by_cases hq : (5 : Int) ≤ x.length
    · rw [if_pos hq]
      have : 5 - x.length = 0 := by omega
      rw [this]; rfl
    · rw [if_neg hq]
      have e5 : Int.toNat 5 - x.length = 5 - x.length := rfl
      rw [e5]
      have hp : zfilled x (5 - x.length) = Builtin.Str.padded x (5 - x.length) 0 48 := by
        unfold zfilled
        cases e : x.cps[0]? with
        | none => rfl
        | some c =>
          have hc : c ∈ x.cps.toList := by
            rw [← Array.getElem?_toList] at e
            exact List.mem_of_getElem? e
          have := hd c hc
          split
          · rename_i e2; cases e2; omega
          · rename_i e2; cases e2; omega
          · rfl
      rw [hp]
      simp [Builtin.Str.padded]
  have xl : x.length ≤ 5 := by rw [hlen]; exact hl
  have xl2 : x.cps.toList.length = x.length := Array.length_toList
  refine ⟨?_, ?_, ?_⟩
  · rw [hz, List.length_append, List.length_replicate, xl2]; omega
  · rw [hz]
    intro c hc
    rcases List.mem_append.mp hc with hc | hc
    · have := List.eq_of_mem_replicate hc; omega
    · exact hd c hc
  · rw [hz, dgVal_zeros, hv]
theorem dg_inj {m n : Int} (h0 : 0 ≤ m) (h1 : m < 100000) (h2 : 0 ≤ n) (h3 : n < 100000) (h : dg m = dg n) : m = n := by
  have a := (dg_all h0 h1).2.2
  have b := (dg_all h2 h3).2.2
  rw [← a, ← b, h]
/-- five digits are read -/
theorem dg_read {x : Str} (h : NumText.AllDigits x.cps.toList) (hl : x.length = 5) : PySem.intText? x = some ((NumText.digitsVal x.cps.toList : Nat) : Int) :=
  intText_digits h (fun e => by
    have : x.cps.toList.length = 5 := by rw [Array.length_toList]; exact hl
    rw [e] at this; cases this) (by rw [hl]; decide)
theorem pE (x : Int) : 0 ≤ x % P ∧ x % P < 100000 := by
  have h : 0 ≤ x % 99991 ∧ x % 99991 < 100000 := by omega
  exact h
/-! ### sealed lists of codes -/
def tl (l : List Nat) : List Nat := 32 :: 35 :: (dg (T1 l % P) ++ dg (T2 1 l % P))
def sl (l : List Nat) : List Nat := l ++ tl l
theorem tl_len (l : List Nat) : (tl l).length = 12 := by
  have a := (dg_all (pE (T1 l)).1 (pE (T1 l)).2).1
  have b := (dg_all (pE (T2 1 l)).1 (pE (T2 1 l)).2).1
  show (dg _ ++ dg _).length + 1 + 1 = 12
  rw [List.length_append, a, b]
theorem sl_len (l : List Nat) : (sl l).length = l.length + 12 := by
  unfold sl
  rw [List.length_append, tl_len]
theorem sl_take (l : List Nat) : (sl l).take l.length = l := by
  unfold sl
  rw [List.take_append_of_le_length (Nat.le_refl _), List.take_length]
theorem df_sl {l m : List Nat} (hl : l.length = m.length) : df (sl l) (sl m) = df l m + (df (dg (T1 l % P)) (dg (T1 m % P)) + df (dg (T2 1 l % P)) (dg (T2 1 m % P))) := by
  unfold sl
  rw [df_app hl]
  have a := (dg_all (pE (T1 l)).1 (pE (T1 l)).2).1
  have b := (dg_all (pE (T1 m)).1 (pE (T1 m)).2).1
  have : df (tl l) (tl m) = df (dg (T1 l % P) ++ dg (T2 1 l % P)) (dg (T1 m % P) ++ dg (T2 1 m % P)) := by
    unfold tl
    rw [df, df, if_pos rfl, if_pos rfl]; omega
  rw [this, df_app (by rw [a, b])]
theorem dg_df {a b : Int} (h : a % P ≠ b % P) : 1 ≤ df (dg (a % P)) (dg (b % P)) :=
  df_ne (by rw [(dg_all (pE a).1 (pE a).2).1, (dg_all (pE b).1 (pE b).2).1]) fun e => h (dg_inj (pE a).1 (pE a).2 (pE b).1 (pE b).2 e)
/-- two sealed texts differ at three places -/
theorem apart {l m : List Nat} (hl : l.length = m.length) (hn : l.length ≤ 90001) (ol : Ok l) (om : Ok m) (h : l ≠ m) : 3 ≤ df (sl l) (sl m) := by
  rw [df_sl hl]
  have h1 := df_ne hl h
  by_cases d1 : df l m = 1
  · obtain ⟨a, b⟩ := sums_one hl hn ol om d1
    have := dg_df a
    have := dg_df b
    omega
  · by_cases d2 : df l m = 2
    · have := sums_two hl hn ol om d2
      by_cases a : T1 l % P = T1 m % P
      · have := dg_df fun b => this ⟨a, b⟩
        omega
      · have := dg_df a
        omega
    · omega
end SE
namespace SE
open PySem PySem.Spec PyProof.Rows
/-- the signs -/
def SG : Str := Str.ofString " !\"#$&'()*+,-./0123456789:;<=>?@ABCDEFGHIJKLMNOPQRSTUVWXYZ[\\]^_`abcdefghijklmnopqrstuvwxyz{|}~"
def sgs : List Nat := SG.cps.toList
theorem sgs_eq : sgs = (List.range 95).filterMap fun i => if i = 5 then none else some (i + 32) := by decide +kernel
theorem sg_iff {c : Nat} : c ∈ sgs ↔ 32 ≤ c ∧ c ≤ 126 ∧ c ≠ 37 := by
  rw [sgs_eq, List.mem_filterMap]
  constructor
  · rintro ⟨i, hi, h⟩
    have := List.mem_range.mp hi
    by_cases h5 : i = 5
    · rw [if_pos h5] at h; cases h
    · rw [if_neg h5] at h; cases h; omega
  · intro h
    exact ⟨c - 32, List.mem_range.mpr (by omega), by rw [if_neg (by omega)]; congr 1; omega⟩
theorem sgs_nd : sgs.Nodup := by decide +kernel
theorem sgs_len : sgs.length = 94 := by decide +kernel
def Sg (l : List Nat) : Prop := ∀ c ∈ l, c ∈ sgs
theorem Sg.ok {l : List Nat} (h : Sg l) : Ok l := fun c hc => by have := sg_iff.mp (h c hc); omega
theorem Sg.app {l m : List Nat} (h : Sg l) (h2 : Sg m) : Sg (l ++ m) := fun c hc => (List.mem_append.mp hc).elim (h c) (h2 c)
theorem Sg.take {l : List Nat} (h : Sg l) (n : Nat) : Sg (l.take n) := fun c hc => h c (List.mem_of_mem_take hc)
theorem Sg.drop {l : List Nat} (h : Sg l) (n : Nat) : Sg (l.drop n) := fun c hc => h c (List.mem_of_mem_drop hc)
theorem Sg.set {l : List Nat} (h : Sg l) (i : Nat) {c : Nat} (hc : c ∈ sgs) : Sg (l.set i c) := fun x hx => by
  rcases List.mem_or_eq_of_mem_set hx with h1 | h1
  · exact h x h1
  · rw [h1]; exact hc
theorem dg_sg (a : Int) : Sg (dg (a % P)) := fun c hc => by
  have := (dg_all (pE a).1 (pE a).2).2.1 c hc
  exact sg_iff.mpr (by omega)
theorem sl_sg {l : List Nat} (h : Sg l) : Sg (sl l) := by
  refine h.app fun c hc => ?_
  have hc : c ∈ 32 :: 35 :: (dg (T1 l % P) ++ dg (T2 1 l % P)) := hc
  rcases List.mem_cons.mp hc with rfl | hc
  · exact sg_iff.mpr (by omega)
  rcases List.mem_cons.mp hc with rfl | hc
  · exact sg_iff.mpr (by omega)
  exact (List.mem_append.mp hc).elim (dg_sg _ c) (dg_sg _ c)
/-! ### inverse -/
/-- what a walk by squares keeps -/
def IvS (c f w l : Nat) : Prop := f * w ^ l % p = c ∧ f < p ∧ w < p
theorem iv_odd {c f w l : Nat} (h : IvS c f w l) (ho : l % 2 = 1) : IvS c (f * w % p) (w * w % p) (l / 2) := by
  obtain ⟨h1, h2, h3⟩ := h
  refine ⟨?_, Nat.mod_lt _ (by decide), Nat.mod_lt _ (by decide)⟩
  rw [← h1]
  have : l = 2 * (l / 2) + 1 := by omega
  conv => rhs; rw [this]
  rw [Nat.pow_add, Nat.pow_mul, Nat.pow_one]
  rw [Nat.mul_mod, Nat.mod_mod, ← Nat.pow_mod, ← Nat.mul_mod]
  rw [Nat.pow_two]
  congr 1
  rw [Nat.mul_assoc, Nat.mul_comm w]
theorem iv_even {c f w l : Nat} (h : IvS c f w l) (ho : l % 2 = 0) : IvS c f (w * w % p) (l / 2) := by
  obtain ⟨h1, h2, h3⟩ := h
  refine ⟨?_, h2, Nat.mod_lt _ (by decide)⟩
  rw [← h1]
  have : l = 2 * (l / 2) := by omega
  conv => rhs; rw [this]
  rw [Nat.pow_mul, Nat.mul_mod, ← Nat.pow_mod, ← Nat.mul_mod, Nat.pow_two]
theorem iv_end {c f w : Nat} (h : IvS c f w 0) : f = c := by
  obtain ⟨h1, h2, _⟩ := h
  rw [Nat.pow_zero, Nat.mul_one, Nat.mod_eq_of_lt h2] at h1
  exact h1
theorem iv_start {m : Nat} (h1 : m < p) : IvS (m ^ (p - 2) % p) 1 m (p - 2) := ⟨by rw [Nat.one_mul], by decide, h1⟩
theorem iv_inv {m : Nat} (h0 : 0 < m) (h1 : m < p) : m ^ (p - 2) % p * m % p = 1 := by
  rw [Nat.mul_mod, Nat.mod_mod, ← Nat.mul_mod, ← Nat.pow_succ]
  exact fermat h0 h1
/-! ### one other sign that has these sums -/
def Fix (t : List Nat) (a b : Int) (o : List Nat) : Prop := ∃ (i c x : Nat), t[i]? = some x ∧ c ∈ sgs ∧ (a - T1 t % P) % P ≠ 0 ∧
  (((i : Int) + 1) * ((a - T1 t % P) % P) - b + T2 1 t % P) % P = 0 ∧ ((c : Int) - x - (a - T1 t % P) % P) % P = 0 ∧ o = t.set i c
theorem eqP {a b : Int} (h : (a - b) % P = 0) (h0 : -P < a - b) (h1 : a - b < P) : a = b := by
  have h : (a - b) % 99991 = 0 := h
  have hP : P = 99991 := rfl
  omega
/-- the place, the sign -/
theorem fix_at {t : List Nat} {b : Int} {i j : Nat} {g : Int} (hn : t.length ≤ 90001) (hi : i < t.length) (hj : j < t.length) (hg : g % P ≠ 0) (h1 : (((i : Int) + 1) * g - b + T2 1 t % P) % P = 0) (h2 : (((j : Int) + 1) * g - b + T2 1 t % P) % P = 0) : i = j := by
  have h3 : ((((i : Int) + 1) * g - b + T2 1 t % P) - (((j : Int) + 1) * g - b + T2 1 t % P)) % P = 0 := by
    rw [Int.sub_emod, h1, h2]; rfl
  have e : (((i : Int) + 1) * g - b + T2 1 t % P) - (((j : Int) + 1) * g - b + T2 1 t % P) = g * ((i : Int) - j) := by
    rw [Int.mul_comm g, Int.sub_mul, Int.add_mul, Int.add_mul]; omega
  rw [e] at h3
  have h4 := mulP h3 hg
  have hP : P = 99991 := rfl
  have := eqP h4 (by omega) (by omega)
  omega
theorem gap_mod (a : Int) : (a % P) % P = a % P := Int.emod_emod_of_dvd a (Int.dvd_refl _)
theorem Fix.uniq {t o o' : List Nat} {a b : Int} (hn : t.length ≤ 90001) (h : Fix t a b o) (h' : Fix t a b o') : o = o' := by
  obtain ⟨i, c, x, h1, h2, h3, h4, h5, rfl⟩ := h
  obtain ⟨j, d, y, g1, g2, g3, g4, g5, rfl⟩ := h'
  have li := (List.getElem?_eq_some_iff.mp h1).1
  have lj := (List.getElem?_eq_some_iff.mp g1).1
  obtain rfl := fix_at hn li lj (by rw [gap_mod]; exact h3) h4 g4
  rw [h1] at g1
  cases g1
  have := sg_iff.mp h2
  have := sg_iff.mp g2
  have h6 : (((c : Int) - x - (a - T1 t % P) % P) - ((d : Int) - x - (a - T1 t % P) % P)) % P = 0 := by
    rw [Int.sub_emod, h5, g5]; rfl
  have e : (((c : Int) - x - (a - T1 t % P) % P) - ((d : Int) - x - (a - T1 t % P) % P)) = (c : Int) - d := by omega
  rw [e] at h6
  have hP : P = 99991 := rfl
  have := eqP h6 (by omega) (by omega)
  have : c = d := by omega
  rw [this]
theorem Fix.ne {t o : List Nat} {a b : Int} (h : Fix t a b o) : o ≠ t := fun e => by
  obtain ⟨i, c, x, h1, h2, h3, h4, h5, rfl⟩ := h
  have li := (List.getElem?_eq_some_iff.mp h1).1
  have : (t.set i c)[i]? = some c := List.getElem?_set_self li
  rw [e, h1] at this
  cases this
  rw [show (c : Int) - c - (a - T1 t % P) % P = -((a - T1 t % P) % P) by omega] at h5
  have h5 : (-((a - T1 t % P) % P)) % 99991 = 0 := h5
  have h3 : (a - T1 t % P) % 99991 ≠ 0 := h3
  have e2 : (a - T1 t % P) % P = (a - T1 t % P) % 99991 := rfl
  rw [e2] at h5
  omega
theorem Fix.sg {t o : List Nat} {a b : Int} (h : Fix t a b o) (ht : Sg t) : Sg o ∧ o.length = t.length := by
  obtain ⟨i, c, x, h1, h2, h3, h4, h5, rfl⟩ := h
  exact ⟨ht.set i h2, List.length_set⟩
open Classical in
noncomputable def fixO (t : List Nat) (a b : Int) : Option (List Nat) := if z : ∃ o, Fix t a b o then some (Classical.choose z) else none
theorem fixO_some {t o : List Nat} {a b : Int} (hn : t.length ≤ 90001) (h : Fix t a b o) : fixO t a b = some o := by
  unfold fixO
  rw [dif_pos ⟨o, h⟩]
  congr 1
  exact Fix.uniq hn (Classical.choose_spec (⟨o, h⟩ : ∃ o, Fix t a b o)) h
theorem fixO_none {t : List Nat} {a b : Int} (h : ∀ o, ¬ Fix t a b o) : fixO t a b = none := by
  unfold fixO
  rw [dif_neg (fun ⟨o, z⟩ => h o z)]
theorem fixO_is {t o : List Nat} {a b : Int} (h : fixO t a b = some o) : Fix t a b o := by
  unfold fixO at h
  split at h
  · rename_i z
    cases h
    exact Classical.choose_spec z
  · cases h
/-! ### the text that is near -/
def d10 (l : List Nat) : List Nat := l.drop (l.length - 10)
def v1 (l : List Nat) : Int := (NumText.digitsVal ((d10 l).take 5) : Nat)
def v2 (l : List Nat) : Int := (NumText.digitsVal ((d10 l).drop 5) : Nat)
def txt (l : List Nat) : List Nat := l.take (l.length - 12)
open Classical in
noncomputable def fixN (l : List Nat) : Option (List Nat) := if NumText.AllDigits (d10 l) then (match fixO (txt l) (v1 l) (v2 l) with | some o => if df (sl o) l ≤ 1 then some o else none | none => none) else none
open Classical in
noncomputable def nearO (l : List Nat) : Option (List Nat) := if l.length < 12 then none else if df (sl (txt l)) l ≤ 1 then some (txt l) else fixN l
theorem txt_len {l : List Nat} (h : 12 ≤ l.length) : (txt l).length = l.length - 12 := by unfold txt; rw [List.length_take]; omega
theorem near_uniq {t t' l : List Nat} (hl : t.length = t'.length) (hl2 : l.length = t.length + 12) (hn : t.length ≤ 90001) (ot : Ok t) (ot' : Ok t') (h : df (sl t) l ≤ 1) (h' : df (sl t') l ≤ 1) : t = t' := by
  refine Classical.byContradiction fun ne => ?_
  have := apart hl hn ot ot' ne
  have := df_tri (sl t) l (sl t') (by rw [sl_len]; omega)
  rw [df_comm l] at this
  omega
theorem fixN_is {l o : List Nat} (h : fixN l = some o) : Fix (txt l) (v1 l) (v2 l) o ∧ df (sl o) l ≤ 1 ∧ NumText.AllDigits (d10 l) := by
  unfold fixN at h
  split at h
  · rename_i hd
    split at h
    · rename_i o' e
      split at h
      · cases h
        exact ⟨fixO_is e, by assumption, hd⟩
      · cases h
    · cases h
  · cases h
/-- a text within one sign of the line is the one -/
theorem near_is {l t : List Nat} (hs : Sg l) (hl : l.length = t.length + 12) (hn : t.length ≤ 90001) (ht : Sg t) (h : df (sl t) l ≤ 1) : nearO l = some t := by
  have h12 : ¬ l.length < 12 := by omega
  have tl2 : (txt l).length = t.length := by rw [txt_len (by omega)]; omega
  unfold nearO
  rw [if_neg h12]
  by_cases h1 : df (sl (txt l)) l ≤ 1
  · rw [if_pos h1]
    rw [near_uniq tl2 (by omega) (by omega) (hs.take _).ok ht.ok h1 h]
  · rw [if_neg h1]
    -- the line's text is another one, so the tail is right
    have sp : l = txt l ++ l.drop (l.length - 12) := (List.take_append_drop _ _).symm
    have hne : txt l ≠ t := fun e => h1 (by rw [e]; exact h)
    have dsp : df (sl t) l = df t (txt l) + df (tl t) (l.drop (l.length - 12)) := by
      conv => lhs; rw [sp]
      unfold sl
      exact df_app tl2.symm
    have d1 : 1 ≤ df t (txt l) := df_ne tl2.symm (Ne.symm hne)
    have dt : df t (txt l) = 1 := by omega
    have etl : tl t = l.drop (l.length - 12) := df_zero (by rw [tl_len, List.length_drop]; omega) (by omega)
    have e10 : d10 l = dg (T1 t % P) ++ dg (T2 1 t % P) := by
      have : d10 l = (l.drop (l.length - 12)).drop 2 := by
        unfold d10
        rw [List.drop_drop]
        congr 1
        omega
      rw [this, ← etl]
      rfl
    have a := dg_all (pE (T1 t)).1 (pE (T1 t)).2
    have b := dg_all (pE (T2 1 t)).1 (pE (T2 1 t)).2
    have hd : NumText.AllDigits (d10 l) := fun c hc => by
      rw [e10] at hc
      exact (List.mem_append.mp hc).elim (a.2.1 c) (b.2.1 c)
    have ev1 : v1 l = T1 t % P := by
      unfold v1
      rw [e10, List.take_append_of_le_length (by rw [a.1]; exact Nat.le_refl _), ← a.1, List.take_length]
      exact a.2.2
    have ev2 : v2 l = T2 1 t % P := by
      unfold v2
      rw [e10]
      have := List.drop_left (l₁ := dg (T1 t % P)) (l₂ := dg (T2 1 t % P))
      rw [a.1] at this
      rw [this]
      exact b.2.2
    have hF : Fix (txt l) (v1 l) (v2 l) t := by
      obtain ⟨i, hi, he⟩ : ∃ i, ∃ hi : i < t.length, t = (txt l).set i (t[i]'hi) ∧ (txt l)[i]'(by omega) ≠ t[i]'hi := by
        have key : ∀ {l m : List Nat}, l.length = m.length → df l m = 1 → ∃ i, ∃ hi : i < l.length, l = m.set i (l[i]'hi) ∧ ∀ x, m[i]? = some x → x ≠ l[i]'hi := by
          intro l
          induction l with
          | nil => intro m hl h; cases m <;> cases h
          | cons a l ih =>
            intro m hl h
            cases m with
            | nil => cases hl
            | cons b m =>
              rw [df] at h
              by_cases e : a = b
              · subst e
                obtain ⟨i, hi, e1, e2⟩ := ih (m := m) (by simpa using hl) (by simpa using h)
                refine ⟨i + 1, by simpa using hi, ?_, fun x hx => ?_⟩
                · rw [List.set_cons_succ]
                  congr 1
                · have := e2 x (by simpa using hx)
                  simpa using this
              · rw [if_neg e] at h
                have := df_zero (l := l) (m := m) (by simpa using hl) (by omega)
                subst this
                exact ⟨0, by simp, by simp, fun x hx => by simp at hx; subst hx; simpa using Ne.symm e⟩
        obtain ⟨i, hi, e1, e2⟩ := key tl2.symm dt
        exact ⟨i, hi, e1, e2 _ (List.getElem?_eq_getElem (by omega))⟩
      have li : i < (txt l).length := by omega
      obtain ⟨j, d, h2, ⟨h3, h3', h3''⟩, h4, h5⟩ := df_one tl2.symm ht.ok (hs.take _).ok dt
      -- both tell the same place: work with the explicit change
      have s1 : T1 t - T1 (txt l) = (t[i]'hi : Int) - ((txt l)[i]'li : Int) ∧ T2 1 t - T2 1 (txt l) = ((i : Int) + 1) * ((t[i]'hi : Int) - ((txt l)[i]'li : Int)) := by
        have key : ∀ (m : List Nat) (i : Nat) (c : Nat) (k : Int) (hi : i < m.length), T1 (m.set i c) - T1 m = (c : Int) - (m[i]'hi : Int) ∧ T2 k (m.set i c) - T2 k m = (k + i) * ((c : Int) - (m[i]'hi : Int)) := by
          intro m
          induction m with
          | nil => intro i c k hi; cases hi
          | cons b m ih =>
            intro i c k hi
            cases i with
            | zero =>
              refine ⟨by simp [T1]; omega, ?_⟩
              rw [List.set_cons_zero, T2, T2]
              have : (k + ((0 : Nat) : Int)) * ((c : Int) - ((b :: m)[0]'hi : Int)) = k * ((c : Int) - 31) - k * ((b : Int) - 31) := by
                rw [← Int.mul_sub]; congr 1
                · omega
                · simp; omega
              rw [this]; omega
            | succ i =>
              obtain ⟨g1, g2⟩ := ih i c (k + 1) (by simpa using hi)
              refine ⟨by simp [T1]; omega, ?_⟩
              rw [List.set_cons_succ, T2, T2]
              have e1 : (b :: m)[i + 1]'hi = m[i]'(by simpa using hi) := by simp
              have e2 : k + ((i + 1 : Nat) : Int) = k + 1 + i := by omega
              rw [e1, e2, ← g2]; omega
        have := key (txt l) i (t[i]'hi) 1 li
        rw [← he.1] at this
        rw [Int.add_comm (i : Int) 1]
        exact this
      obtain ⟨s1, s2⟩ := s1
      generalize hx : (txt l)[i]'li = x at *
      generalize hc : t[i]'hi = c at *
      have cs : c ∈ sgs := by rw [← hc]; exact ht _ (List.getElem_mem hi)
      have xs : x ∈ sgs := by rw [← hx]; exact (hs.take _) _ (List.getElem_mem li)
      have cb := sg_iff.mp cs
      have xb := sg_iff.mp xs
      have gp : (v1 l - T1 (txt l) % P) % P = ((c : Int) - x) % P := by
        rw [ev1, ← s1, ← Int.sub_emod]
      refine ⟨i, c, x, by rw [List.getElem?_eq_getElem li, hx], cs, ?_, ?_, ?_, by rw [← hc] at he ⊢; exact he.1⟩
      · rw [gp]
        have hP : P = 99991 := rfl
        exact smallP (by have := he.2; omega) (by omega) (by omega)
      · rw [gp, ev2]
        have e1 : (((i : Int) + 1) * (((c : Int) - x) % P) - T2 1 t % P + T2 1 (txt l) % P) % P = (((i : Int) + 1) * ((c : Int) - x) - (T2 1 t - T2 1 (txt l))) % P := by
          rw [Int.add_emod, Int.sub_emod, Int.mul_emod, gap_mod, ← Int.mul_emod, gap_mod, gap_mod, ← Int.sub_emod, ← Int.add_emod]
          congr 1; omega
        rw [e1, s2, Int.sub_self]; rfl
      · rw [gp]
        have e1 : ((c : Int) - x - ((c : Int) - x) % P) % P = (((c : Int) - x) - ((c : Int) - x)) % P := by
          rw [Int.sub_emod, gap_mod, ← Int.sub_emod]
        rw [e1, Int.sub_self]; rfl
    unfold fixN
    rw [if_pos hd, fixO_some (by omega) hF]
    simp only
    rw [if_pos h]
/-- what is changed at one or two places is no sealed text -/
theorem not_sealed {l t : List Nat} (hs : Sg l) (hl : l.length = t.length + 12) (hn : t.length ≤ 90001) (ht : Sg t) (h0 : 1 ≤ df (sl t) l) (h : df (sl t) l ≤ 2) : sl (txt l) ≠ l := fun e => by
  have tl2 : (txt l).length = t.length := by rw [txt_len (by omega)]; omega
  by_cases hne : t = txt l
  · rw [hne, e, df_self] at h0
    omega
  · have := apart tl2.symm hn ht.ok (hs.take _).ok hne
    rw [e] at this
    omega
end SE
namespace SE
open PySem PySem.Spec PyProof.Rows
/-- the place at which a sign is to be changed, by the inverse -/
theorem place_iff {g r b t2 : Int} (hr : r * g % P = 1) {i : Nat} (hi : i < 90001) : (((i : Int) + 1) * g - b + t2) % P = 0 ↔ (i : Int) + 1 = (b - t2) * r % P := by
  have hP : P = 99991 := rfl
  obtain ⟨k, hk⟩ : ∃ k, r * g = 1 + P * k := ⟨r * g / P, by have := Int.emod_add_mul_ediv (r * g) P; rw [hr] at this; exact this.symm⟩
  have e1 : (b - t2) * r * g = (b - t2) + P * ((b - t2) * k) := by
    rw [Int.mul_assoc, hk, Int.mul_add, Int.mul_one, Int.mul_left_comm]
  constructor
  · intro h
    have h2 : ((((i : Int) + 1) - (b - t2) * r) * g) % P = 0 := by
      rw [Int.sub_mul, e1]
      have : ((i : Int) + 1) * g - ((b - t2) + P * ((b - t2) * k)) = (((i : Int) + 1) * g - b + t2) - P * ((b - t2) * k) := by omega
      rw [this, Int.sub_mul_emod_self_left]
      exact h
    have g0 : g % P ≠ 0 := fun z => by
      rw [Int.mul_emod, z, Int.mul_zero] at hr
      exact absurd hr (by decide)
    have h3 := mulP (by rw [Int.mul_comm]; exact h2) g0
    have h4 : ((i : Int) + 1) % P = (b - t2) * r % P := Int.emod_eq_emod_iff_emod_sub_eq_zero.mpr h3
    rw [← h4]
    exact (Int.emod_eq_of_lt (by omega) (by omega)).symm
  · intro h
    obtain ⟨q, hq⟩ : ∃ q, (b - t2) * r = (i : Int) + 1 + P * q := ⟨(b - t2) * r / P, by have := Int.emod_add_mul_ediv ((b - t2) * r) P; rw [← h] at this; exact this.symm⟩
    have e2 : ((i : Int) + 1) * g - b + t2 = P * ((b - t2) * k - q * g) := by
      have : ((i : Int) + 1) * g = (b - t2) * r * g - P * q * g := by rw [← Int.sub_mul, hq]; congr 1; omega
      rw [this, e1, Int.mul_sub, ← Int.mul_assoc P q g]; omega
    rw [e2, Int.mul_emod_right]
theorem num_iff {c x : Nat} {g : Int} (hc : c ∈ sgs) : ((c : Int) - x - g) % P = 0 ↔ (c : Int) - 31 = (((x : Int) - 31) + g) % P := by
  have hb := sg_iff.mp hc
  have hP : P = 99991 := rfl
  constructor
  · intro h
    have h1 : (((c : Int) - 31) - (((x : Int) - 31) + g)) % P = 0 := by
      rw [show ((c : Int) - 31) - (((x : Int) - 31) + g) = (c : Int) - x - g by omega]; exact h
    rw [← Int.emod_eq_emod_iff_emod_sub_eq_zero.mpr h1]
    exact (Int.emod_eq_of_lt (by omega) (by omega)).symm
  · intro h
    have h1 : ((c : Int) - 31) % P = (((x : Int) - 31) + g) % P := by
      conv => lhs; rw [h]
      exact Int.emod_emod_of_dvd _ (Int.dvd_refl _)
    have := Int.emod_eq_emod_iff_emod_sub_eq_zero.mp h1
    rw [show ((c : Int) - 31) - (((x : Int) - 31) + g) = (c : Int) - x - g by omega] at this
    exact this
theorem sg_one {c d x : Nat} {g : Int} (hc : c ∈ sgs) (hd : d ∈ sgs) (h1 : ((c : Int) - x - g) % P = 0) (h2 : ((d : Int) - x - g) % P = 0) : c = d := by
  have := (num_iff hc).mp h1
  have := (num_iff hd).mp h2
  omega
theorem set_cut {l : List Nat} {i c : Nat} (hi : i < l.length) : l.take i ++ [c] ++ l.drop (i + 1) = l.set i c := by
  rw [List.set_eq_take_append_cons_drop, if_pos hi]; simp
end SE
namespace SE
open PySem PySem.Spec PyProof.Rows
theorem near_lt {l : List Nat} (h : l.length < 12) : nearO l = none := by unfold nearO; rw [if_pos h]
theorem near_a {l : List Nat} (h : ¬ l.length < 12) (h1 : df (sl (txt l)) l ≤ 1) : nearO l = some (txt l) := by unfold nearO; rw [if_neg h, if_pos h1]
theorem near_b {l : List Nat} (h : ¬ l.length < 12) (h1 : ¬ df (sl (txt l)) l ≤ 1) : nearO l = fixN l := by unfold nearO; rw [if_neg h, if_neg h1]
theorem fixN_d {l : List Nat} (h : ¬ NumText.AllDigits (d10 l)) : fixN l = none := by unfold fixN; rw [if_neg h]
theorem fixN_0 {l : List Nat} (e : fixO (txt l) (v1 l) (v2 l) = none) : fixN l = none := by
  unfold fixN
  split
  · rw [e]
  · rfl
theorem fixN_1 {l o : List Nat} (h : NumText.AllDigits (d10 l)) (e : fixO (txt l) (v1 l) (v2 l) = some o) (h1 : df (sl o) l ≤ 1) : fixN l = some o := by
  unfold fixN
  rw [if_pos h, e]
  simp only
  rw [if_pos h1]
theorem fixN_2 {l o : List Nat} (e : fixO (txt l) (v1 l) (v2 l) = some o) (h1 : ¬ df (sl o) l ≤ 1) : fixN l = none := by
  unfold fixN
  split
  · rw [e]
    simp only
    rw [if_neg h1]
  · rfl
theorem df_not0 {l o : List Nat} {a b : Int} (h : Fix (txt l) a b o) (h12 : ¬ l.length < 12) : df (sl o) l ≠ 0 := fun z => by
  have ol : o.length = (txt l).length := by obtain ⟨i, c, x, _, _, _, _, _, rfl⟩ := h; exact List.length_set
  have tl2 := txt_len (l := l) (by omega)
  have e := df_zero (by rw [sl_len]; omega) z
  have e2 : txt l = o := by
    conv => lhs; rw [← e]
    unfold txt
    rw [sl_len, Nat.add_sub_cancel, sl_take]
  exact h.ne e2.symm
theorem alld_iff {l : List Nat} : NumText.AllDigits (d10 l) ↔ NumText.AllDigits ((d10 l).take 5) ∧ NumText.AllDigits ((d10 l).drop 5) := by
  constructor
  · exact fun h => ⟨fun c hc => h c (List.mem_of_mem_take hc), fun c hc => h c (List.mem_of_mem_drop hc)⟩
  · rintro ⟨h1, h2⟩ c hc
    rw [← List.take_append_drop 5 (d10 l)] at hc
    exact (List.mem_append.mp hc).elim (h1 c) (h2 c)
theorem near_sg {l o : List Nat} (hs : Sg l) (h : nearO l = some o) : Sg o ∧ o.length + 12 = l.length ∧ df (sl o) l ≤ 1 := by
  by_cases h0 : l.length < 12
  · rw [near_lt h0] at h; cases h
  have tl2 := txt_len (l := l) (by omega)
  by_cases h1 : df (sl (txt l)) l ≤ 1
  · rw [near_a h0 h1] at h
    cases h
    exact ⟨hs.take _, by omega, h1⟩
  · rw [near_b h0 h1] at h
    obtain ⟨g1, g2, _⟩ := fixN_is h
    obtain ⟨q1, q2⟩ := g1.sg (hs.take _)
    exact ⟨q1, by omega, g2⟩
/-- a doubled sign is no sealed text -/
theorem dup_not {t : List Nat} (ht : Sg t) {at_ : Nat} (h : at_ + 1 < (sl t).length) : sl (txt ((sl t).take (at_ + 1) ++ (sl t).drop at_)) ≠ (sl t).take (at_ + 1) ++ (sl t).drop at_ := fun e => by
  rw [sl_len] at h
  have dgI : ∀ {a b : Int}, dg (a % P) = dg (b % P) → a % P = b % P := fun {a b} q => dg_inj (pE a).1 (pE a).2 (pE b).1 (pE b).2 q
  have tlI : ∀ {l m : List Nat}, tl l = tl m → T1 l % P = T1 m % P := fun {l m} q => by
    have q : (32 :: 35 :: (dg (T1 l % P) ++ dg (T2 1 l % P))) = 32 :: 35 :: (dg (T1 m % P) ++ dg (T2 1 m % P)) := q
    have q2 := (List.cons.inj (List.cons.inj q).2).2
    have := List.append_inj_left q2 (by rw [(dg_all (pE (T1 l)).1 (pE (T1 l)).2).1, (dg_all (pE (T1 m)).1 (pE (T1 m)).2).1])
    exact dgI this
  have hP : P = 99991 := rfl
  by_cases ha : at_ < t.length
  · obtain ⟨c, hc⟩ : ∃ c, t[at_]? = some c := ⟨t[at_], List.getElem?_eq_getElem ha⟩
    have cb := sg_iff.mp (ht c (List.mem_of_getElem? hc))
    have e1 : (sl t).take (at_ + 1) ++ (sl t).drop at_ = (t.take (at_ + 1) ++ t.drop at_) ++ tl t := by
      unfold sl
      rw [List.take_append_of_le_length (by omega), List.drop_append_of_le_length (by omega), List.append_assoc]
    rw [e1] at e
    have e2 : txt ((t.take (at_ + 1) ++ t.drop at_) ++ tl t) = t.take (at_ + 1) ++ t.drop at_ := by
      unfold txt
      rw [List.length_append, tl_len, Nat.add_sub_cancel, List.take_append_of_le_length (Nat.le_refl _), List.take_length]
    rw [e2] at e
    have e3 := tlI (List.append_cancel_left e)
    have e4 : T1 (t.take (at_ + 1) ++ t.drop at_) = T1 t + ((c : Int) - 31) := by
      rw [T1_app, List.take_add_one, hc, T1_app]
      have : T1 t = T1 (t.take at_) + T1 (t.drop at_) := by rw [← T1_app, List.take_append_drop]
      rw [this]
      show T1 (t.take at_) + (((c : Int) - 31) + 0) + T1 (t.drop at_) = _
      omega
    rw [e4] at e3
    have e3 : (T1 t + ((c : Int) - 31)) % 99991 = T1 t % 99991 := e3
    omega
  · obtain ⟨j, rfl⟩ : ∃ j, at_ = t.length + j := ⟨at_ - t.length, by omega⟩
    have e1 : (sl t).take (t.length + j + 1) ++ (sl t).drop (t.length + j) = t ++ ((tl t).take (j + 1) ++ (tl t).drop j) := by
      unfold sl
      rw [Nat.add_assoc, List.take_length_add_append, List.drop_length_add_append, List.append_assoc]
    have j11 : j ≤ 10 := by omega
    have l13 : ((tl t).take (j + 1) ++ (tl t).drop j).length = 13 := by rw [List.length_append, List.length_take, List.length_drop, tl_len]; omega
    rw [e1] at e
    have e0 : ∃ r, tl t = 32 :: 35 :: r := ⟨_, rfl⟩
    obtain ⟨r, hr⟩ := e0
    have e5 : ∃ y m, (tl t).take (j + 1) ++ (tl t).drop j = 32 :: y :: m ∧ ((j = 0 ∧ y :: m = tl t) ∨ y = 35) := by
      rw [hr]
      rcases j with _ | j
      · exact ⟨32, 35 :: r, rfl, .inl ⟨rfl, rfl⟩⟩
      · exact ⟨35, _, rfl, .inr rfl⟩
    obtain ⟨y, m, em, hy⟩ := e5
    rw [em] at e l13
    have lm : m.length = 11 := by simpa using l13
    have e2 : txt (t ++ 32 :: y :: m) = t ++ [32] := by
      unfold txt
      have : (t ++ 32 :: y :: m).length - 12 = t.length + 1 := by rw [List.length_append, List.length_cons, List.length_cons]; omega
      rw [this, List.take_length_add_append]
      rfl
    rw [e2] at e
    have e : (t ++ [32]) ++ tl (t ++ [32]) = t ++ 32 :: y :: m := e
    rw [List.append_assoc] at e
    have e3 := List.append_cancel_left e
    have e3 : 32 :: tl (t ++ [32]) = 32 :: y :: m := e3
    have e4 := (List.cons.inj e3).2
    rcases hy with ⟨_, hy⟩ | hy
    · rw [hy] at e4
      have e6 := tlI e4
      rw [T1_app] at e6
      have e6 : (T1 t + (((32 : Nat) : Int) - 31 + 0)) % 99991 = T1 t % 99991 := e6
      omega
    · have e4 : 32 :: 35 :: _ = y :: m := e4
      have := (List.cons.inj e4).1
      omega
end SE
namespace SE
open PySem PySem.Spec PyProof.Rows
/-- the changes at the place j -/
def FixI (t : List Nat) (a b : Int) (j : Nat) (o : List Nat) : Prop := ∃ (c x : Nat), t[j]? = some x ∧ c ∈ sgs ∧ (a - T1 t % P) % P ≠ 0 ∧
  (((j : Int) + 1) * ((a - T1 t % P) % P) - b + T2 1 t % P) % P = 0 ∧ ((c : Int) - x - (a - T1 t % P) % P) % P = 0 ∧ o = t.set j c
/-- the list of the only one, if there is one -/
def IsL (L : List (List Nat)) (Q : List Nat → Prop) : Prop := (∃ o, Q o ∧ L = [o]) ∨ ((∀ o, ¬ Q o) ∧ L = [])
theorem IsL.congr {L : List (List Nat)} {Q R : List Nat → Prop} (h : IsL L Q) (e : ∀ o, Q o ↔ R o) : IsL L R := by
  rcases h with ⟨o, h1, h2⟩ | ⟨h1, h2⟩
  · exact .inl ⟨o, (e o).mp h1, h2⟩
  · exact .inr ⟨fun o z => h1 o ((e o).mpr z), h2⟩
theorem IsL.none {L : List (List Nat)} {Q : List Nat → Prop} (h : IsL L Q) (e : ∀ o, ¬ Q o) : L = [] := by
  rcases h with ⟨o, h1, h2⟩ | ⟨h1, h2⟩
  · exact absurd h1 (e o)
  · exact h2
theorem IsL.nil {Q : List Nat → Prop} (e : ∀ o, ¬ Q o) : IsL [] Q := .inr ⟨e, rfl⟩
theorem isl_fix {t : List Nat} {a b : Int} {L : List (List Nat)} (hn : t.length ≤ 90001) (h : IsL L fun o => ∃ j, j < t.length ∧ FixI t a b j o) : L = (fixO t a b).toList := by
  rcases h with ⟨o, ⟨j, hj, c, x, h1⟩, rfl⟩ | ⟨h1, rfl⟩
  · rw [fixO_some hn ⟨j, c, x, h1⟩]; rfl
  · rw [fixO_none fun o ⟨i, c, x, h2⟩ => h1 o ⟨i, (List.getElem?_eq_some_iff.mp h2.1).1, c, x, h2⟩]; rfl
theorem IsL.len {L : List (List Nat)} {Q : List Nat → Prop} (h : IsL L Q) : L.length ≤ 1 := by
  rcases h with ⟨o, h1, rfl⟩ | ⟨h1, rfl⟩ <;> simp
end SE
namespace SE
open PySem PySem.Spec PyProof.Rows
theorem sg_index : ∀ i < 94, ∀ c, sgs[i]? = some c → Builtin.Str.occurrences SG ⟨#[c]⟩ 0 SG.length 1 = [i] := by
  have h : (List.range 94).all (fun i => Builtin.Str.occurrences SG ⟨#[sgs.getD i 0]⟩ 0 SG.length 1 == [i]) = true := by decide +kernel
  intro i hi c hc
  have := List.all_eq_true.mp h i (List.mem_range.mpr hi)
  rw [List.getD_eq_getElem?_getD, hc] at this
  simpa using this
theorem df_set : ∀ {l m : List Nat} {i c x : Nat}, l.length = m.length → l[i]? = some x → m[i]? = some x → c ≠ x → df l (m.set i c) = df l m + 1
  | [], _, i, _, _, _, h, _, _ => by simp at h
  | a :: l, [], _, _, _, h, _, _, _ => by simp at h
  | a :: l, b :: m, 0, c, x, h, h1, h2, hc => by
    simp at h1 h2
    subst h1 h2
    rw [List.set_cons_zero, df, df, if_neg (Ne.symm hc), if_pos rfl]; omega
  | a :: l, b :: m, i + 1, c, x, h, h1, h2, hc => by
    rw [List.set_cons_succ, df, df, df_set (by simpa using h) (by simpa using h1) (by simpa using h2) hc]; omega
end SE
namespace W
open PySem PySem.Spec PyProof.Rows L2 DL
def top (i : Nat) : Stmt := PySem.Challenge.pw_networth_k82_sealed_texts.main.body.getD i (.Pass ⟨0, 0, 0, 0⟩)
abbrev s_is_sign : Stmt := top 8
def N_is_sign : List Str := ["char"]
theorem sc_is_sign : FnScope N_is_sign ["char"] (defScope s_is_sign) := ⟨rfl, rfl, rfl, by decide +kernel, rfl, by decide +kernel, by decide +kernel⟩
abbrev s_number_of : Stmt := top 9
def N_number_of : List Str := ["char"]
theorem sc_number_of : FnScope N_number_of ["char"] (defScope s_number_of) := ⟨rfl, rfl, rfl, by decide +kernel, rfl, by decide +kernel, by decide +kernel⟩
abbrev s_sums_of : Stmt := top 10
def N_sums_of : List Str := ["text", "first", "second", "at", "char", "number"]
theorem sc_sums_of : FnScope N_sums_of ["text"] (defScope s_sums_of) := ⟨rfl, rfl, rfl, by decide +kernel, rfl, by decide +kernel, by decide +kernel⟩
abbrev s_sealed : Stmt := top 11
def N_sealed : List Str := ["text", "first", "second"]
theorem sc_sealed : FnScope N_sealed ["text"] (defScope s_sealed) := ⟨rfl, rfl, rfl, by decide +kernel, rfl, by decide +kernel, by decide +kernel⟩
abbrev s_is_text : Stmt := top 12
def N_is_text : List Str := ["text", "char"]
theorem sc_is_text : FnScope N_is_text ["text"] (defScope s_is_text) := ⟨rfl, rfl, rfl, by decide +kernel, rfl, by decide +kernel, by decide +kernel⟩
abbrev s_opened : Stmt := top 13
def N_opened : List Str := ["line", "text"]
theorem sc_opened : FnScope N_opened ["line"] (defScope s_opened) := ⟨rfl, rfl, rfl, by decide +kernel, rfl, by decide +kernel, by decide +kernel⟩
abbrev s_differing : Stmt := top 14
def N_differing : List Str := ["one", "other", "at"]
theorem sc_differing : FnScope N_differing ["one", "other"] (defScope s_differing) := ⟨rfl, rfl, rfl, by decide +kernel, rfl, by decide +kernel, by decide +kernel⟩
abbrev s_read_sum : Stmt := top 15
def N_read_sum : List Str := ["word", "char"]
theorem sc_read_sum : FnScope N_read_sum ["word"] (defScope s_read_sum) := ⟨rfl, rfl, rfl, by decide +kernel, rfl, by decide +kernel, by decide +kernel⟩
abbrev s_inverse : Stmt := top 16
def N_inverse : List Str := ["number", "found", "power", "left"]
theorem sc_inverse : FnScope N_inverse ["number"] (defScope s_inverse) := ⟨rfl, rfl, rfl, by decide +kernel, rfl, by decide +kernel, by decide +kernel⟩
abbrev s_with_one_mended : Stmt := top 17
def N_with_one_mended : List Str := ["text", "first", "second", "now", "then", "more", "place", "number", "char"]
theorem sc_with_one_mended : FnScope N_with_one_mended ["text", "first", "second"] (defScope s_with_one_mended) := ⟨rfl, rfl, rfl, by decide +kernel, rfl, by decide +kernel, by decide +kernel⟩
abbrev s_mended : Stmt := top 18
def N_mended : List Str := ["line", "text", "first", "second", "found"]
theorem sc_mended : FnScope N_mended ["line"] (defScope s_mended) := ⟨rfl, rfl, rfl, by decide +kernel, rfl, by decide +kernel, by decide +kernel⟩
abbrev s_law_mixed : Stmt := top 20
def N_law_mixed : List Str := ["number", "place", "first", "second", "third"]
theorem sc_law_mixed : FnScope N_law_mixed ["number", "place"] (defScope s_law_mixed) := ⟨rfl, rfl, rfl, by decide +kernel, rfl, by decide +kernel, by decide +kernel⟩
abbrev s_law_rest : Stmt := top 21
def N_law_rest : List Str := ["script", "place", "fills", "number"]
theorem sc_law_rest : FnScope N_law_rest ["script", "place", "fills"] (defScope s_law_rest) := ⟨rfl, rfl, rfl, by decide +kernel, rfl, by decide +kernel, by decide +kernel⟩
abbrev s_law_pool : Stmt := top 22
def N_law_pool : List Str := ["script"]
theorem sc_law_pool : FnScope N_law_pool ["script"] (defScope s_law_pool) := ⟨rfl, rfl, rfl, by decide +kernel, rfl, by decide +kernel, by decide +kernel⟩
abbrev s_law_next : Stmt := top 23
def N_law_next : List Str := ["pool"]
theorem sc_law_next : FnScope N_law_next ["pool"] (defScope s_law_next) := ⟨rfl, rfl, rfl, by decide +kernel, rfl, by decide +kernel, by decide +kernel⟩
abbrev s_law_draw : Stmt := top 24
def N_law_draw : List Str := ["pool", "limit", "value"]
theorem sc_law_draw : FnScope N_law_draw ["pool", "limit"] (defScope s_law_draw) := ⟨rfl, rfl, rfl, by decide +kernel, rfl, by decide +kernel, by decide +kernel⟩
abbrev s_law_same : Stmt := top 25
def N_law_same : List Str := ["answer", "due", "key", "k"]
theorem sc_law_same : FnScope N_law_same ["answer", "due"] (defScope s_law_same) := ⟨rfl, rfl, rfl, by decide +kernel, rfl, by decide +kernel, by decide +kernel⟩
abbrev s_law_signs : Stmt := top 26
def N_law_signs : List Str := []
theorem sc_law_signs : FnScope N_law_signs [] (defScope s_law_signs) := ⟨rfl, rfl, rfl, by decide +kernel, rfl, by decide +kernel, by decide +kernel⟩
abbrev s_law_numbers : Stmt := top 27
def N_law_numbers : List Str := ["text", "first", "second", "at", "number"]
theorem sc_law_numbers : FnScope N_law_numbers ["text"] (defScope s_law_numbers) := ⟨rfl, rfl, rfl, by decide +kernel, rfl, by decide +kernel, by decide +kernel⟩
abbrev s_law_sealed : Stmt := top 28
def N_law_sealed : List Str := ["text", "first", "second"]
theorem sc_law_sealed : FnScope N_law_sealed ["text"] (defScope s_law_sealed) := ⟨rfl, rfl, rfl, by decide +kernel, rfl, by decide +kernel, by decide +kernel⟩
abbrev s_law_differing : Stmt := top 29
def N_law_differing : List Str := ["one", "other", "at"]
theorem sc_law_differing : FnScope N_law_differing ["one", "other"] (defScope s_law_differing) := ⟨rfl, rfl, rfl, by decide +kernel, rfl, by decide +kernel, by decide +kernel⟩
abbrev s_law_with_sums : Stmt := top 30
def N_law_with_sums : List Str := ["text", "first", "second", "now", "then", "found", "at", "gap", "char"]
theorem sc_law_with_sums : FnScope N_law_with_sums ["text", "first", "second"] (defScope s_law_with_sums) := ⟨rfl, rfl, rfl, by decide +kernel, rfl, by decide +kernel, by decide +kernel⟩
abbrev s_law_near : Stmt := top 31
def N_law_near : List Str := ["line", "text", "found", "digits", "other", "char"]
theorem sc_law_near : FnScope N_law_near ["line"] (defScope s_law_near) := ⟨rfl, rfl, rfl, by decide +kernel, rfl, by decide +kernel, by decide +kernel⟩
abbrev s_law_any_text : Stmt := top 32
def N_law_any_text : List Str := ["pool", "size", "signs", "text", "k"]
theorem sc_law_any_text : FnScope N_law_any_text ["pool", "size"] (defScope s_law_any_text) := ⟨rfl, rfl, rfl, by decide +kernel, rfl, by decide +kernel, by decide +kernel⟩
abbrev s_law_replaced : Stmt := top 33
def N_law_replaced : List Str := ["pool", "line", "many", "signs", "places", "k", "place", "j", "at"]
theorem sc_law_replaced : FnScope N_law_replaced ["pool", "line", "many"] (defScope s_law_replaced) := ⟨rfl, rfl, rfl, by decide +kernel, rfl, by decide +kernel, by decide +kernel⟩
abbrev s_law_opened : Stmt := top 34
def N_law_opened : List Str := ["line", "e"]
theorem sc_law_opened : FnScope N_law_opened ["line"] (defScope s_law_opened) := ⟨rfl, rfl, rfl, by decide +kernel, rfl, by decide +kernel, by decide +kernel⟩
abbrev s_law_mended : Stmt := top 35
def N_law_mended : List Str := ["line", "e"]
theorem sc_law_mended : FnScope N_law_mended ["line"] (defScope s_law_mended) := ⟨rfl, rfl, rfl, by decide +kernel, rfl, by decide +kernel, by decide +kernel⟩
abbrev s_law_right : Stmt := top 36
def N_law_right : List Str := ["line", "text", "many", "due", "near"]
theorem sc_law_right : FnScope N_law_right ["line", "text", "many"] (defScope s_law_right) := ⟨rfl, rfl, rfl, by decide +kernel, rfl, by decide +kernel, by decide +kernel⟩
abbrev s_law_other : Stmt := top 37
def N_law_other : List Str := ["pool", "line", "way", "at"]
theorem sc_law_other : FnScope N_law_other ["pool", "line"] (defScope s_law_other) := ⟨rfl, rfl, rfl, by decide +kernel, rfl, by decide +kernel, by decide +kernel⟩
abbrev s_law : Stmt := top 38
def N_law : List Str := ["script", "pool", "size", "text", "line", "many", "wrong", "other", "due"]
theorem sc_law : FnScope N_law ["script"] (defScope s_law) := ⟨rfl, rfl, rfl, by decide +kernel, rfl, by decide +kernel, by decide +kernel⟩
local macro_rules | `(tactic| walk_at "pd") => `(tactic| ((with_reducible refine' je_callPd ?zn ?zb ?zk ?_ ?z1 ?z2 ?z3); (case zn => with_reducible assumption); (case zb => with_reducible assumption); (case zk => first | exact Nat.le_refl _ | decide); (case z1 => decide); (case z2 => rfl); (case z3 => rfl)))
local macro_rules | `(tactic| walk_at "vw") => `(tactic| first
  | (with_reducible refine' vk_nil ?_)
  | (with_reducible refine' vk_d ?_)
  | ((with_reducible refine' vk_l ?z1 ?z2 ?_); (case z1 => rfl); (first | (case z2 => exact dsOf_map _) | (case z2 => rfl) | rotate_left))
  | ((with_reducible refine' vk_k ?z1 ?z2 ?_); (case z1 => rfl); (first | (case z2 => exact dsOf_map _) | (case z2 => rfl) | rotate_left)))
local macro_rules | `(tactic| walk_at "cb") => `(tactic| ((with_reducible refine' je_callB ?zn ?zb ?zk ?_ ?z1 ?z2 ?z3); (case zn => with_reducible assumption); (case zb => with_reducible assumption); (case zk => first | exact Nat.le_refl _ | decide); (case z1 => decide); (case z2 => rfl); (case z3 => rfl)))
local macro_rules | `(tactic| walk_at "bd") => `(tactic| first | omega | decide | (constructor <;> omega) | (left; constructor <;> omega) | (right; constructor <;> omega))
local macro_rules | `(tactic| walk_at "je") => `(tactic| first
  | ((with_reducible refine' je_name ?zn ?zh ?zq); (case zn => with_reducible assumption); (case zh => rfl))
  | (with_reducible refine' je_int ?_)
  | (with_reducible refine' je_str ?_)
  | (with_reducible refine' je_bin ?_)
  | ((with_reducible refine' je_sub ?_ ?zs); (case zs => intro _ _; rfl))
  | (with_reducible refine' je_sliceS ?_)
  | ((with_reducible refine' je_cmp ?_ ?zs); (case zs => rfl))
  | ((with_reducible refine' je_get2 ?zb ?_ ?zm); (case zb => with_reducible assumption); (case zm => exact ⟨rfl, rfl, rfl, rfl⟩))
  | ((with_reducible refine' je_gcd ?zg ?_ ?z1 ?z2 ?z3); (case zg => with_reducible assumption); (case z1 => decide); (case z2 => intro _ _; rfl); (case z3 => intro _ _; rfl))
  | ((with_reducible refine' je_listD ?zg ?_ ?zs); (case zg => with_reducible assumption); (case zs => intro _ _; rfl))
  | ((with_reducible refine' je_dictD ?zg ?_ ?zs); (case zg => with_reducible assumption); (case zs => intro _ _; rfl))
  | ((with_reducible refine' je_callNK ?zn ?zb ?zk ?zm ?_ ?z1 ?z2 ?z3); (case zn => with_reducible assumption); (case zb => with_reducible assumption); (case zk => first | exact Nat.le_refl _ | decide); (case zm => assumption); (case z1 => decide); (case z2 => rfl); (case z3 => rfl))
  | (with_reducible refine' je_tup ?_)
  | (with_reducible refine' je_lst ?_)
  | ((with_reducible refine' je_len ?zg ?_ ?zs); (case zg => with_reducible assumption); (case zs => intro _ _; rfl))
  | ((with_reducible refine' je_intc ?zg ?_ ?zs); (case zg => with_reducible assumption); (case zs => intro _ _; rfl))
  | ((with_reducible refine' je_abs ?zg ?_ ?zs); (case zg => with_reducible assumption); (case zs => intro _ _; rfl))
  | ((with_reducible refine' je_stri ?zg ?_ ?zs); (case zg => with_reducible assumption); (case zs => intro _ _; rfl))
  | (with_reducible refine' je_bl ?_)
  | ((with_reducible refine' je_isi ?zg ?zt ?zv ?_ ?z1 ?z2 ?z3); (case zg => with_reducible assumption); (case zt => with_reducible assumption); (case zv => first | exact PyProof.Rows.boot_dict | exact PyProof.Rows.boot_list | exact PyProof.Rows.boot_tuple | exact PyProof.Rows.boot_str | exact PyProof.Rows.boot_int | exact PyProof.Rows.boot_bool); (case z1 => decide); (case z2 => decide); (case z3 => intro _ _; rfl))
  | (with_reducible refine' je_non ?_)
  | ((with_reducible refine' je_glob ?zn ?zq); (case zn => with_reducible assumption))
  | ((with_reducible refine' je_chain ?_ ?zs); (case zs => with_unfolding_all rfl))
  | (with_reducible refine' je_not ?_)
  | (with_reducible refine' je_un ?_)
  | (with_reducible refine' je_one ?_)
  | (with_reducible refine' je_and ?_)
  | (with_reducible refine' je_or ?_)
  | (with_reducible refine' je_ife ?_)
  | ((with_reducible refine' je_callX ?zn ?zb ?zk ?_ ?z1 ?z2 ?z3); (case zn => with_reducible assumption); (case zb => with_reducible assumption); (case zk => first | exact Nat.le_refl _ | decide); (case z1 => decide); (case z2 => rfl); (case z3 => rfl))
  | ((with_reducible refine' je_callC ?zn ?zb ?zk ?_ ?z1 ?z2 ?z3); (case zn => with_reducible assumption); (case zb => with_reducible assumption); (case zk => first | exact Nat.le_refl _ | decide); (case z1 => decide); (case z2 => rfl); (case z3 => rfl)))
local macro_rules | `(tactic| walk_at "jr") => `(tactic| first
  | (with_reducible refine' jr_add ?_)
  | (with_reducible refine' jr_sub ?_)
  | ((with_reducible refine' jr_mod ?zc ?_); (first | (case zc => assumption) | (case zc => omega) | (case zc => assumption) | rotate_left))
  | ((with_reducible refine' jr_mulS ?z1 ?z2 ?_); (first | (case z1 => decide) | rotate_left); (first | (case z2 => constructor <;> omega) | rotate_left))
  | ((with_reducible refine' jr_mul ?zc ?_); (first | (case zc => assumption) | (case zc => left; first | (left; omega) | (right; omega)) | (case zc => right; exact wide_mul (a := 128) (b := 128) (by omega) (by omega) (by decide) (by decide) (by decide)) | rotate_left))
  | ((with_reducible refine' jr_fdiv ?zc ?_); (first | (case zc => assumption) | (case zc => left; constructor <;> omega) | rotate_left))
  | ((with_reducible refine' jr_pow ?zc ?_); (case zc => exact ⟨by decide, by decide, by decide⟩))
  | (with_reducible refine' jr_lt ?_)
  | (with_reducible refine' jr_le ?_)
  | (with_reducible refine' jr_gt ?_)
  | (with_reducible refine' jr_ge ?_)
  | ((with_reducible refine' jr_eqQ ?zb ?_); (case zb => with_reducible assumption))
  | ((with_reducible refine' jr_neQ ?zb ?_); (case zb => with_reducible assumption))
  | ((with_reducible refine' jr_inStrs ?zh ?zk ?_); (case zh => rfl); (case zk => first | exact Or.inl rfl | exact Or.inr rfl))
  | ((with_reducible refine' jr_ninStrs ?zh ?zk ?_); (case zh => rfl); (case zk => first | exact Or.inl rfl | exact Or.inr rfl))
  | (with_reducible refine' jr_eqiS ?_)
  | (with_reducible refine' jr_eqsS ?_)
  | (with_reducible refine' jr_eqbS ?_)
  | (with_reducible refine' jr_nebS ?_)
  | (with_reducible refine' jr_eqi ?_)
  | (with_reducible refine' jr_nei ?_)
  | (with_reducible refine' jr_eqs ?_)
  | (with_reducible refine' jr_nes ?_)
  | (with_reducible refine' jr_eqb ?_)
  | (with_reducible refine' jr_neb ?_)
  | ((with_reducible refine' jr_isNF ?zh ?_); (case zh => rfl))
  | ((with_reducible refine' jr_isNT ?zh ?_); (case zh => rfl))
  | ((with_reducible refine' jr_notNF ?zh ?_); (case zh => rfl))
  | ((with_reducible refine' jr_notNT ?zh ?_); (case zh => rfl))
  | ((with_reducible refine' jr_isF ?zh ?_); (case zh => rfl))
  | ((with_reducible refine' jr_isT ?zh ?_); (case zh => rfl))
  | ((with_reducible refine' jr_inD ?zb ?zh ?zk ?_); (case zb => with_reducible assumption); (case zh => rfl); (first | (case zk => rfl) | (case zk => with_reducible assumption) | rotate_left))
  | ((with_reducible refine' jr_ninD ?zb ?zh ?zk ?_); (case zb => with_reducible assumption); (case zh => rfl); (first | (case zk => rfl) | (case zk => with_reducible assumption) | rotate_left))
  | ((with_reducible refine' jr_adds ?zc ?_); (first | (case zc => assumption) | rotate_left)))
local macro_rules | `(tactic| walk_at "jx") => `(tactic|
  ((with_reducible refine' jx_seq ?zh ?zk ?za ?zq); (case zh => rfl); (case zk => first | exact Or.inl rfl | exact Or.inr rfl); (case za => rfl)))
local macro_rules | `(tactic| walk_at "jv") => `(tactic| first
  | (with_reducible refine' jv_int_i ?_)
  | (with_reducible refine' jv_int_b ?_)
  | ((with_reducible refine' jv_len_str ?zh ?zq); (first | (case zh => assumption) | rotate_left))
  | ((with_reducible refine' jv_len_nd ?zh ?zk ?zq); (case zh => rfl); (case zk => rfl)))
local macro_rules | `(tactic| walk_at "jt") => `(tactic| first
  | (with_reducible refine' jt_not ?_)
  | ((with_reducible refine' jt_cmp ?_ ?zs); (case zs => rfl))
  | ((with_reducible refine' jt_chain ?_ ?zs); (case zs => with_unfolding_all rfl))
  | (with_reducible refine' jt_w (jw_and ?_))
  | (with_reducible refine' jt_w (jw_or ?_))
  | ((with_reducible refine' jt_val ?_ ?zs); (case zs => intro _; rfl)))
local macro_rules | `(tactic| walk_at "js") => `(tactic| first
  | ((with_reducible refine' jss_set ?zn ?_ ?zs); (case zn => with_reducible assumption); (case zs => rfl))
  | (with_reducible refine' jss_ret ?_)
  | (with_reducible refine' jss_ifr ?_)
  | (with_reducible refine' jss_ifbr ?_)
  | (with_reducible refine' jss_if1 ?_)
  | ((with_reducible refine' jss_ifL ?zl ?_); (case zl => rfl))
  | (with_reducible refine' jss_nilT ?_)
  | (with_reducible refine' jss_nil ?_)
  | (with_reducible refine' jss_retN ?_)
  | (with_reducible refine' jss_break ?_)
  | (with_reducible refine' jss_cont ?_)
  | (with_reducible refine' jss_doc ?_)
  | ((with_reducible refine' jss_expr ?_ ?zs); (case zs => rfl))
  | ((with_reducible refine' jss_asg ?_ ?zs ?zt ?zu); (case zs => rfl); (case zt => rfl); (case zu => rfl)))
local macro_rules | `(tactic| walk_at "jg") => `(tactic| first
  | ((with_reducible refine' jg_name ?zn ?_); (case zn => with_reducible assumption))
  | ((with_reducible refine' jg_tup ?zb ?zn ?zl ?_ ?z1 ?z2); (case zb => with_reducible assumption); (case zn => rfl); (case zl => rfl); (case z1 => rfl); (case z2 => rfl))
  | ((with_reducible refine' jg_setX ?zb ?zh ?_ ?zs); (case zb => with_reducible assumption); (case zh => with_reducible assumption); (case zs => intro _; rfl)))
local macro_rules | `(tactic| walk_at "br") => `(tactic| first
  | (with_reducible refine' L2.iteT ?_)
  | (with_reducible refine' L2.iteF ?_)
  | (with_reducible refine' ite_nT ?_)
  | (with_reducible refine' ite_nF ?_)
  | ((with_reducible refine' ite_dec ?_ ?_) <;> intro hb <;> try (exfalso; omega))
  | ((with_reducible refine' ite_ndec ?_ ?_) <;> intro hb <;> try (exfalso; omega))
  | ((with_reducible refine' ite_bool ?_ ?_) <;> intro hb)
  | ((with_reducible refine' ite_nbool ?_ ?_) <;> intro hb))
local macro_rules | `(tactic| walk_at "ja") => `(tactic| first
  | (with_reducible refine' ja_nil ?_)
  | ((with_reducible refine' ja_cons ?_ ?zs); (case zs => rfl)))
local macro_rules | `(tactic| walk_at "jw") => `(tactic| first
  | (with_reducible refine' jw_and ?_)
  | (with_reducible refine' jw_or ?_)
  | (with_reducible refine' jw_and1 ?_)
  | (with_reducible refine' jw_or1 ?_))
local macro_rules | `(tactic| walk_at "st") => `(tactic| first
  | ((with_reducible show JE _ _ _ _ _); walk_at "je")
  | ((with_reducible show JR _ _ _ _ _ _ _); walk_at "jr")
  | ((with_reducible show JX _ _ _ _ _ _); walk_at "jx")
  | ((with_reducible show JA _ _ _ _ _); walk_at "ja")
  | ((with_reducible show JSs _ _ _ _ _); walk_at "js")
  | ((with_reducible show JT _ _ _ _ _); walk_at "jt")
  | ((with_reducible show JV _ _ _ _ _ _); walk_at "jv")
  | ((with_reducible show JG _ _ _ _ _ _); walk_at "jg")
  | ((with_reducible show JGs _ _ _ _ _ _); (first | with_reducible refine' jgs_nil ?_ | ((with_reducible refine' jgs_cons ?_ ?zs); (case zs => rfl)) | refine' jgs_nil ?_ | ((refine' jgs_cons ?_ ?zs); (case zs => rfl))))
  | ((with_reducible show JW _ _ _ _ _); walk_at "jw")
  | ((with_reducible show JO _ _ _ _ _); (first | with_reducible refine' jo_none ?_ | with_reducible refine' jo_some ?_))
  | ((with_reducible show JU _ _ _ _ _ _); with_reducible refine' ju_neg ?_)
  | ((with_reducible show And (LE.le _ sizeLine) _); refine And.intro ?_ ?_)
  | ((with_reducible show LE.le _ sizeLine); with_reducible assumption)
  | ((with_reducible show And (LT.lt (Nat.log2 _) _) _); refine And.intro ?_ ?_; with_reducible assumption)
  | ((with_reducible show LE.le _ sizeLine); (rw [sizeLine_eq]); (first | (simp only [List.length_cons, List.length_nil, List.length_append, List.length_map]; omega) | (simp; done)))
  | (with_reducible refine' ⟨_, rfl, ?_⟩)
  | ((with_reducible show VwK _ _ _); walk_at "vw")
  | ((with_reducible refine' rtX_P ?_ ?zd); (case zd => rfl))
  | ((with_reducible refine' rtX_B ?zd ?_); (case zd => rfl))
  | (with_reducible refine' rtΦ_dat ?_)
  | (with_reducible refine' rtΦ_new ?_)
  | (with_reducible refine' rtE_d ?_)
  | (refine' ⟨_, _, rfl, ?zkit, ?_⟩; (case zkit => with_reducible (show kitB _ _ = some _); with_reducible first | exact kit_NoneType_dict | exact kit_NoneType_list | exact kit_NoneType_tuple | exact kit_NoneType_str | exact kit_NoneType_int | exact kit_NoneType_bool | exact kit_bool_dict | exact kit_bool_list | exact kit_bool_tuple | exact kit_bool_str | exact kit_bool_int | exact kit_bool_bool | exact kit_int_dict | exact kit_int_list | exact kit_int_tuple | exact kit_int_str | exact kit_int_int | exact kit_int_bool | exact kit_str_dict | exact kit_str_list | exact kit_str_tuple | exact kit_str_str | exact kit_str_int | exact kit_str_bool | exact kit_tuple_dict | exact kit_tuple_list | exact kit_tuple_tuple | exact kit_tuple_str | exact kit_tuple_int | exact kit_tuple_bool | exact kit_list_dict | exact kit_list_list | exact kit_list_tuple | exact kit_list_str | exact kit_list_int | exact kit_list_bool | exact kit_dict_dict | exact kit_dict_list | exact kit_dict_tuple | exact kit_dict_str | exact kit_dict_int | exact kit_dict_bool))
  | (refine' ⟨_, _, _, _, _, rfl, rfl, rfl, dsOf_map _, ?_⟩)
  | walk_at "br")
local macro_rules | `(tactic| walk_at "go") => `(tactic| repeat' walk_at "st")
abbrev lsI (ns : List Int) : D := .nd .lst (ns.map .int)
def R_mixed : RP := fun ds post => ∃ n p : Int, ds = [.int n, .int p] ∧ ∀ r : Int, 0 ≤ r → post (.dat (.int r))
def R_rest : RP := fun ds post => ∃ (ns : List Int) (n p : Int), ds = [lsI ns, .int n, .int p] ∧ ∀ r : Int, 0 ≤ r → post (.dat (.int r))
/-- a pool -/
def PoolD (cds : List D) : Prop := ∃ (ns : List Int) (i n f : Int), cds = [lsI ns, .int i, .int n, .int f] ∧ 0 ≤ n
def R_pool : RP := fun ds post => ∃ (ns : List Int), ds = [lsI ns] ∧ ∀ cds, PoolD cds → post (.new .lst cds)
def R_next : RC1 := fun kd cds ds post => kd = .lst ∧ PoolD cds ∧ ds = [] ∧ ∀ cds', PoolD cds' → post (.dat .non) .lst cds'
def Lim (m : Int) : Prop := 0 < m ∧ m.natAbs.log2 < 9000
def R_draw : RC1 := fun kd cds ds post => kd = .lst ∧ PoolD cds ∧ ∃ m : Int, ds = [.int m] ∧ Lim m ∧ ∀ (v : Int) cds', 0 ≤ v → v < m → PoolD cds' → post (.dat (.int v)) .lst cds'
def R_pick : RC1 := fun kd cds ds post => kd = .lst ∧ PoolD cds ∧ ∃ (k : Kd) (os : List D), ds = [.nd k os] ∧ (k = .lst ∨ k = .tup) ∧ 0 < os.length ∧ os.length ≤ 1000 ∧ ∀ d cds', d ∈ os → PoolD cds' → post (.dat d) .lst cds'
theorem mo_mixed : MonoP R_mixed := fun ds p q m ⟨a, b, e, h⟩ => ⟨a, b, e, fun r hr => m _ (h r hr)⟩
theorem mo_rest : MonoP R_rest := fun ds p q m ⟨a, b, c, e, h⟩ => ⟨a, b, c, e, fun r hr => m _ (h r hr)⟩
theorem mo_pool : MonoP R_pool := fun ds p q m ⟨a, e, h⟩ => ⟨a, e, fun r hr => m _ (h r hr)⟩
theorem mo_next : MonoC R_next := fun kd cds ds p q m ⟨a, b, c, h⟩ => ⟨a, b, c, fun r hr => m _ _ _ (h r hr)⟩
theorem mo_draw : MonoC R_draw := fun kd cds ds p q m ⟨a, b, c, d, e, h⟩ => ⟨a, b, c, d, e, fun v r h1 h2 h3 => m _ _ _ (h v r h1 h2 h3)⟩
theorem mo_pick : MonoC R_pick := fun kd cds ds p q m ⟨a, b, c, d, e, f, g, i, h⟩ => ⟨a, b, c, d, e, f, g, i, fun v r h1 h2 => m _ _ _ (h v r h1 h2)⟩
theorem lim_of {m : Int} (h : 0 < m) (h2 : m.natAbs < 2 ^ 1000) : Lim m := ⟨h, Nat.lt_trans (PySem.Flt.log2_lt_of (by decide) h2) (by decide)⟩
theorem ap_mixed {n p : Int} {post : Rt → Prop} (h : ∀ r : Int, 0 ≤ r → post (.dat (.int r))) : R_mixed [.int n, .int p] post := ⟨n, p, rfl, h⟩
theorem ap_rest {ns : List Int} {n p : Int} {post : Rt → Prop} (h : ∀ r : Int, 0 ≤ r → post (.dat (.int r))) : R_rest [lsI ns, .int n, .int p] post := ⟨ns, n, p, rfl, h⟩
theorem ap_pool {ns : List Int} {post : Rt → Prop} (h : ∀ cds, PoolD cds → post (.new .lst cds)) : R_pool [lsI ns] post := ⟨ns, rfl, h⟩
theorem ap_next {cds : List D} {post : Rt → Kd → List D → Prop} (hp : PoolD cds) (h : ∀ cds', PoolD cds' → post (.dat .non) .lst cds') : R_next .lst cds [] post := ⟨rfl, hp, rfl, h⟩
theorem ap_draw {cds : List D} {m : Int} {post : Rt → Kd → List D → Prop} (hp : PoolD cds) (hm : Lim m) (h : ∀ (v : Int) cds', 0 ≤ v → v < m → PoolD cds' → post (.dat (.int v)) .lst cds') : R_draw .lst cds [.int m] post := ⟨rfl, hp, m, rfl, hm, h⟩
theorem ap_pick {cds os : List D} {k : Kd} {post : Rt → Kd → List D → Prop} (hp : PoolD cds) (hk : k = .lst ∨ k = .tup) (h0 : 0 < os.length) (h1 : os.length ≤ 1000) (h : ∀ d cds', d ∈ os → PoolD cds' → post (.dat d) .lst cds') : R_pick .lst cds [.nd k os] post := ⟨rfl, hp, k, os, rfl, hk, h0, h1, h⟩
theorem atI_mod {α : Type} {xs : List α} (h : 0 < xs.length) (i : Int) : ∃ x, L2.atI xs (i % (xs.length : Int)) = some x ∧ x ∈ xs := by
  have h1 : 0 ≤ i % (xs.length : Int) := Int.emod_nonneg _ (by omega)
  have h2 : i % (xs.length : Int) < xs.length := Int.emod_lt_of_pos _ (by omega)
  obtain ⟨j, hj⟩ : ∃ j : Nat, i % (xs.length : Int) = (j : Int) := ⟨(i % (xs.length : Int)).toNat, by omega⟩
  have hl : j < xs.length := by omega
  exact ⟨xs[j], by rw [hj]; exact L2.atI_nat (List.getElem?_eq_getElem hl), List.getElem_mem hl⟩
theorem atI_in {α : Type} {xs : List α} {i : Int} (h1 : 0 ≤ i) (h2 : i < xs.length) : ∃ x, L2.atI xs i = some x ∧ x ∈ xs := by
  obtain ⟨j, hj⟩ : ∃ j : Nat, i = (j : Int) := ⟨i.toNat, by omega⟩
  have hl : j < xs.length := by omega
  exact ⟨xs[j], by rw [hj]; exact L2.atI_nat (List.getElem?_eq_getElem hl), List.getElem_mem hl⟩
structure Bs (mg : Str → Option Value) : Prop where
  b_int : mg "int" = none
  b_len : mg "len" = none
structure Bs4 (mg : Str → Option Value) : Prop extends Bs mg where
  b_range : mg "range" = none
  b_str : mg "str" = none
  b_ord : mg "ord" = none
  b_min : mg "min" = none
  b_all : mg "all" = none
  b_isinstance : mg "isinstance" = none
  b_tuple : mg "tuple" = none
  b_dict : mg "dict" = none
  b_list : mg "list" = none
  b_bool : mg "bool" = none
  b_enumerate : mg "enumerate" = none
  b_ValueError : mg "ValueError" = none
  k_SIGNS : ∃ u, mg "SIGNS" = some u ∧ RelV (.str SE.SG) u
  k_MODULUS : ∃ u, mg "MODULUS" = some u ∧ RelV (.int 99991) u
  k_LENGTH_MOST : ∃ u, mg "LENGTH_MOST" = some u ∧ RelV (.int 90000) u
  k_TAIL : ∃ u, mg "TAIL" = some u ∧ RelV (.int 12) u
section
variable {P : Program} {w : World} {K : PySem.W.Frag} {mg : Str → Option Value} {base : Heap}
theorem ok_law_mixed {f : Addr} {fd : FuncData} (C : Bs mg) (Fu : Fun K "_law_mixed" "_law_mixed" s_law_mixed f fd) : FnOk P w K mg base CX0 1 f fd ["number", "place"] (spP K R_mixed) := by
  refine fn_P Fu sc_law_mixed (fun ds post h => ?_) fun X F ds post hX hfn hH h => ?_
  · obtain ⟨n, p, rfl, _⟩ := h
    rfl
  · obtain ⟨n, p, rfl, k⟩ := h
    have bx := hX.bx
    have r0 := hX.nmR (i := 0) (x := "number") rfl (by first | exact Or.inl (by decide +kernel) | exact Or.inr (Or.inl (by decide +kernel))); have w0 := hX.nmW (i := 0) (x := "number") rfl (by decide +kernel); have r1 := hX.nmR (i := 1) (x := "place") rfl (by first | exact Or.inl (by decide +kernel) | exact Or.inr (Or.inl (by decide +kernel))); have w1 := hX.nmW (i := 1) (x := "place") rfl (by decide +kernel); have r2 := hX.nmR (i := 2) (x := "first") rfl (by first | exact Or.inl (by decide +kernel) | exact Or.inr (Or.inl (by decide +kernel))); have w2 := hX.nmW (i := 2) (x := "first") rfl (by decide +kernel); have r3 := hX.nmR (i := 3) (x := "second") rfl (by first | exact Or.inl (by decide +kernel) | exact Or.inr (Or.inl (by decide +kernel))); have w3 := hX.nmW (i := 3) (x := "second") rfl (by decide +kernel); have r4 := hX.nmR (i := 4) (x := "third") rfl (by first | exact Or.inl (by decide +kernel) | exact Or.inr (Or.inl (by decide +kernel))); have w4 := hX.nmW (i := 4) (x := "third") rfl (by decide +kernel); have g_int := hX.glb (x := "int") (by decide +kernel) C.b_int
    conv => (arg 3; whnf)
    walk_at "go"
    exact k _ (by omega)
theorem ok_law_rest {f : Addr} {fd : FuncData} (C : Bs mg) (c_law_mixed : CaP P w K mg base "_law_mixed" 1 R_mixed) (Fu : Fun K "_law_rest" "_law_rest" s_law_rest f fd) : FnOk P w K mg base CX0 2 f fd ["script", "place", "fills"] (spP K R_rest) := by
  refine fn_P Fu sc_law_rest (fun ds post h => ?_) fun X F ds post hX hfn hH h => ?_
  · obtain ⟨ns, n, p, rfl, _⟩ := h
    rfl
  · obtain ⟨ns, n, p, rfl, k⟩ := h
    have bx := hX.bx
    have r0 := hX.nmR (i := 0) (x := "script") rfl (by first | exact Or.inl (by decide +kernel) | exact Or.inr (Or.inl (by decide +kernel))); have w0 := hX.nmW (i := 0) (x := "script") rfl (by decide +kernel); have r1 := hX.nmR (i := 1) (x := "place") rfl (by first | exact Or.inl (by decide +kernel) | exact Or.inr (Or.inl (by decide +kernel))); have w1 := hX.nmW (i := 1) (x := "place") rfl (by decide +kernel); have r2 := hX.nmR (i := 2) (x := "fills") rfl (by first | exact Or.inl (by decide +kernel) | exact Or.inr (Or.inl (by decide +kernel))); have w2 := hX.nmW (i := 2) (x := "fills") rfl (by decide +kernel); have r3 := hX.nmR (i := 3) (x := "number") rfl (by first | exact Or.inl (by decide +kernel) | exact Or.inr (Or.inl (by decide +kernel))); have w3 := hX.nmW (i := 3) (x := "number") rfl (by decide +kernel); have g_len := hX.glb (x := "len") (by decide +kernel) C.b_len; have g_int := hX.glb (x := "int") (by decide +kernel) C.b_int; have d_law_mixed := c_law_mixed.at hX (by decide +kernel)
    conv => (arg 3; whnf)
    walk_at "st"; walk_at "st"
    refine jss_ifM (fun s1 => ∃ z : Int, s1 = (entry N_law_rest (List.map E.d [lsI ns, D.int n, D.int p]) [] 0).set 3 (E.d (D.int z))) ?_ ?_
    · walk_at "go"
      · have hl : 0 < ((ns.map D.int).map E.d).length := by omega
        obtain ⟨x, h1, h2⟩ := atI_mod hl n
        refine jx_seq rfl (.inl rfl) h1 ?_
        simp only [List.map_map, List.mem_map, Function.comp] at h2
        obtain ⟨z, _, rfl⟩ := h2
        walk_at "go"
        exact ⟨z, rfl⟩
      · exact ⟨0, rfl⟩
    · rintro s1 ⟨z, rfl⟩
      refine jss_ifM (fun s1 => ∃ z : Int, 0 ≤ z ∧ s1 = (entry N_law_rest (List.map E.d [lsI ns, D.int n, D.int p]) [] 0).set 3 (E.d (D.int z))) ?_ ?_
      · walk_at "go"
        · exact ⟨1 - 2 * z, by omega, rfl⟩
        · exact ⟨z, by omega, rfl⟩
      · rintro s1 ⟨z, hz, rfl⟩
        walk_at "go"
        · have e : (10 : Int) ^ Int.toNat 18 = 1000000000000000000 := by decide
          rename_i hb
          rw [e] at hb ⊢
          exact k _ (by omega)
        all_goals refine ap_mixed fun r hr => ?_
        all_goals exact k _ hr
theorem ok_law_pool {f : Addr} {fd : FuncData} (C : Bs mg) (c_law_rest : CaP P w K mg base "_law_rest" 2 R_rest) (Fu : Fun K "_law_pool" "_law_pool" s_law_pool f fd) : FnOk P w K mg base CX0 3 f fd ["script"] (spP K R_pool) := by
  refine fn_P Fu sc_law_pool (fun ds post h => ?_) fun X F ds post hX hfn hH h => ?_
  · obtain ⟨ns, rfl, _⟩ := h
    rfl
  · obtain ⟨ns, rfl, k⟩ := h
    have bx := hX.bx
    have r0 := hX.nmR (i := 0) (x := "script") rfl (by first | exact Or.inl (by decide +kernel) | exact Or.inr (Or.inl (by decide +kernel))); have w0 := hX.nmW (i := 0) (x := "script") rfl (by decide +kernel); have d_law_rest := c_law_rest.at hX (by decide +kernel)
    conv => (arg 3; whnf)
    refine jss_ret (je_own (jn_lst ?_))
    walk_at "go"
    refine ap_rest fun r hr => ?_
    walk_at "go"
    exact ⟨rfl, .lst, _, _, rfl, rfl, Nat.zero_le _, k _ ⟨ns, _, _, _, rfl, hr⟩⟩
theorem ok_law_next {f : Addr} {fd : FuncData} (C : Bs mg) (c_law_rest : CaP P w K mg base "_law_rest" 2 R_rest) (Fu : Fun K "_law_next" "_law_next" s_law_next f fd) : FnOk P w K mg base CX0 3 f fd ["pool"] (spC K R_next) := by
  refine fn_C Fu sc_law_next (fun kd cds ds post h => ?_) fun X F kd cds ds post hX hfn hH h => ?_
  · obtain ⟨_, _, rfl, _⟩ := h
    rfl
  · obtain ⟨rfl, ⟨ns, i, n, g, rfl, hn⟩, rfl, k⟩ := h
    have bx := hX.bx
    have r0 := hX.nmR (i := 0) (x := "pool") rfl (by first | exact Or.inl (by decide +kernel) | exact Or.inr (Or.inl (by decide +kernel))); have w0 := hX.nmW (i := 0) (x := "pool") rfl (by decide +kernel); have d_law_rest := c_law_rest.at hX (by decide +kernel)
    conv => (arg 3; whnf)
    walk_at "go"
    refine .inl ⟨0, _, _, _, rfl, rfl, rfl, rfl, ?_⟩
    walk_at "go"
    refine ap_rest fun r hr => ?_
    walk_at "go"
    refine .inl ⟨0, _, _, _, rfl, rfl, rfl, rfl, ?_⟩
    walk_at "go"
    refine .inl ⟨0, _, _, _, rfl, rfl, rfl, rfl, ?_⟩
    walk_at "go"
    exact ⟨.lst, _, _, rfl, rfl, k _ ⟨ns, _, _, _, rfl, hr⟩⟩
theorem ok_law_draw {f : Addr} {fd : FuncData} (C : Bs mg) (c_law_rest : CaP P w K mg base "_law_rest" 2 R_rest) (Fu : Fun K "_law_draw" "_law_draw" s_law_draw f fd) : FnOk P w K mg base CX0 3 f fd ["pool", "limit"] (spC K R_draw) := by
  refine fn_C Fu sc_law_draw (fun kd cds ds post h => ?_) fun X F kd cds ds post hX hfn hH h => ?_
  · obtain ⟨_, _, m, rfl, _⟩ := h
    rfl
  · obtain ⟨rfl, ⟨ns, i, n, g, rfl, hn⟩, m, rfl, ⟨hm, hm2⟩, k⟩ := h
    have bx := hX.bx
    have r0 := hX.nmR (i := 0) (x := "pool") rfl (by first | exact Or.inl (by decide +kernel) | exact Or.inr (Or.inl (by decide +kernel))); have w0 := hX.nmW (i := 0) (x := "pool") rfl (by decide +kernel); have r1 := hX.nmR (i := 1) (x := "limit") rfl (by first | exact Or.inl (by decide +kernel) | exact Or.inr (Or.inl (by decide +kernel))); have w1 := hX.nmW (i := 1) (x := "limit") rfl (by decide +kernel); have r2 := hX.nmR (i := 2) (x := "value") rfl (by first | exact Or.inl (by decide +kernel) | exact Or.inr (Or.inl (by decide +kernel))); have w2 := hX.nmW (i := 2) (x := "value") rfl (by decide +kernel); have d_law_rest := c_law_rest.at hX (by decide +kernel); have g_int := hX.glb (x := "int") (by decide +kernel) C.b_int
    conv => (arg 3; whnf)
    refine jss_ifM (fun s1 => ∃ n g : Int, 0 ≤ n ∧ s1 = entry N_law_draw (E.r 0 :: List.map E.d [D.int m]) [.nd .lst (List.map E.d [lsI ns, .int i, .int n, .int g])] 1) ?_ ?_
    · walk_at "go"
      · refine .inl ⟨0, _, _, _, rfl, rfl, rfl, rfl, ?_⟩
        walk_at "go"
        refine ap_rest fun r hr => ?_
        walk_at "go"
        refine .inl ⟨0, _, _, _, rfl, rfl, rfl, rfl, ?_⟩
        walk_at "go"
        exact ⟨r, g + 1, hr, rfl⟩
      · exact ⟨n, g, hn, rfl⟩
    · rintro s1 ⟨n, g, hn, rfl⟩
      have hW : CDiv n m ∨ CDivW n m := .inr ⟨hm, hm2⟩
      walk_at "go"
      refine .inl ⟨0, _, _, _, rfl, rfl, rfl, rfl, ?_⟩
      walk_at "go"
      refine ⟨.lst, _, _, rfl, rfl, ?_⟩
      exact k _ _ (Int.emod_nonneg _ (by omega)) (Int.emod_lt_of_pos _ hm) ⟨ns, _, _, _, rfl, Int.ediv_nonneg hn (by omega)⟩
end
section
open PySem PySem.Spec PyProof.Rows L2 DL
/-- alike: what stands in the one stands in the other, whatever the order of keys -/
def Sm : Nat → D → D → Prop
  | 0, _, _ => False
  | n + 1, a, .nd .tup ds => ∃ as, a = .nd .tup as ∧ as.length = ds.length ∧ ds.length ≤ 16000000 ∧ ∀ (i : Nat) (x y : D), as[i]? = some x → ds[i]? = some y → Sm n x y
  | n + 1, a, .nd .lst ds => ∃ as, a = .nd .lst as ∧ as.length = ds.length ∧ ds.length ≤ 16000000 ∧ ∀ (i : Nat) (x y : D), as[i]? = some x → ds[i]? = some y → Sm n x y
  | n + 1, a, .nd (.dct ks) ds => ∃ ka as, a = .nd (.dct ka) as ∧ as.length = ds.length ∧ ks.length = ds.length ∧ ks.Nodup ∧ ds.length ≤ 16000000 ∧ ∀ (i : Nat) (k : Key) (y : D), ks[i]? = some k → ds[i]? = some y → ∃ x, lk (ka.zip as) k = some x ∧ Sm n x y
  | _ + 1, _, .nd (.ins _ _) _ => False
  | _ + 1, _, .nd (.exc _ _ _ _) _ => False
  | _ + 1, a, .non => a = .non
  | _ + 1, a, .bl b => a = .bl b
  | _ + 1, a, .int b => a = .int b
  | _ + 1, a, .str b => a = .str b
def R_same (n : Nat) : RP := fun ds post => ∃ a d, ds = [a, d] ∧ Sm n a d ∧ post (.dat (.bl true))
theorem ap_same {n : Nat} {a d : D} {post : Rt → Prop} (h : Sm n a d) (q : post (.dat (.bl true))) : R_same n [a, d] post := ⟨a, d, rfl, h, q⟩
theorem mo_same (n : Nat) : MonoP (R_same n) := fun ds p q m ⟨a, b, c, d, h⟩ => ⟨a, b, c, d, m _ h⟩
theorem all_true {n : Nat} : ((List.range n).map fun _ => true).all id = true := by simp
section
variable {P : Program} {w : World} {K : PySem.W.Frag} {mg : Str → Option Value} {base : Heap}
theorem step_same (n : Nat) {f : Addr} {fd : FuncData} (C : Bs4 mg) (c_law_same : CaP P w K mg base "_law_same" n (R_same n)) (Fu : Fun K "_law_same" "_law_same" s_law_same f fd) : FnOk P w K mg base CX0 (n + 1) f fd ["answer", "due"] (spP K (R_same (n + 1))) := by
  refine fn_P Fu sc_law_same (fun ds post h => ?_) fun X F ds post hX hfn hH h => ?_
  · obtain ⟨_, _, rfl, _⟩ := h
    rfl
  · obtain ⟨a, d, rfl, h, k⟩ := h
    have bx := hX.bx
    have r0 := hX.nmR (i := 0) (x := "answer") rfl (by first | exact Or.inl (by decide +kernel) | exact Or.inr (Or.inl (by decide +kernel))); have w0 := hX.nmC (i := 0) (x := "answer") rfl (by decide +kernel) (hfn _); have r1 := hX.nmR (i := 1) (x := "due") rfl (by first | exact Or.inl (by decide +kernel) | exact Or.inr (Or.inl (by decide +kernel))); have w1 := hX.nmC (i := 1) (x := "due") rfl (by decide +kernel) (hfn _); have g_isinstance := hX.glb (x := "isinstance") (by decide +kernel) C.b_isinstance; have g_dict := hX.glb (x := "dict") (by decide +kernel) C.b_dict; have g_len := hX.glb (x := "len") (by decide +kernel) C.b_len; have g_all := hX.glb (x := "all") (by decide +kernel) C.b_all; have g_list := hX.glb (x := "list") (by decide +kernel) C.b_list; have g_tuple := hX.glb (x := "tuple") (by decide +kernel) C.b_tuple; have g_range := hX.glb (x := "range") (by decide +kernel) C.b_range; have g_str := hX.glb (x := "str") (by decide +kernel) C.b_str; have g_int := hX.glb (x := "int") (by decide +kernel) C.b_int; have g_bool := hX.glb (x := "bool") (by decide +kernel) C.b_bool
    conv => (arg 3; whnf)
    cases d with
    | non =>
      obtain rfl : a = _ := h
      walk_at "go"; exact k
    | bl b =>
      obtain rfl : a = _ := h
      cases b <;> (walk_at "go"; exact k)
    | int i =>
      obtain rfl : a = _ := h
      walk_at "go"; exact k
    | str z =>
      obtain rfl : a = _ := h
      walk_at "go"; exact k
    | nd kd ds =>
      cases kd with
      | ins C fs => exact h.elim
      | exc _ _ _ _ => exact h.elim
      | tup =>
        obtain ⟨as, rfl, hl, hs, hh⟩ := h
        have el : ((as.map E.d).length : Int) = ((ds.map E.d).length : Int) := by simp [hl]
        walk_at "go"
        refine je_all bx g_all (je_lcP bx (blk_ok hX (own := [("k", 3)]) (by decide +kernel)) (j := 3) (by decide) (fun Y hY => (hY.is hX).nmW rfl (by decide +kernel)) (ji_range1 g_range ?_) (by intro _; rfl)) (by intro _ _; rfl)
        walk_at "go"
        · simp only [List.length_map]; omega
        have ln : (ds.map E.d).length = ds.length := List.length_map _
        refine ⟨by rw [ln]; omega, fun _ => .bl true, ?_, ?_⟩
        · rintro i v acc hi hv Y hY
          obtain rfl : v = _ := hv
          have hi2 : i < ds.length := by rw [ln] at hi; omega
          have hd : ds[i]? = some ds[i] := List.getElem?_eq_getElem hi2
          have ha : as[i]? = some (as[i]'(by omega)) := List.getElem?_eq_getElem (by omega)
          have zi : (0 : Int) + i = i := Int.zero_add _
          have hYX := hY.is hX; have bY := hYX.bx; have e_law_same := c_law_same.at hYX (by decide +kernel); have r0Y := hYX.nmR (i := 0) (x := "answer") rfl (by first | exact Or.inl (by decide +kernel) | exact Or.inr (Or.inl (by decide +kernel)) | exact Or.inr (Or.inr (by decide +kernel))); have r3Y := hYX.nmR (i := 3) (x := "k") rfl (by first | exact Or.inl (by decide +kernel) | exact Or.inr (Or.inl (by decide +kernel)) | exact Or.inr (Or.inr (by decide +kernel))); have r1Y := hYX.nmR (i := 1) (x := "due") rfl (by first | exact Or.inl (by decide +kernel) | exact Or.inr (Or.inl (by decide +kernel)) | exact Or.inr (Or.inr (by decide +kernel)))
          rw [zi]
          walk_at "go"
          refine jx_seq rfl (.inr rfl) (L2.atI_nat (by rw [List.getElem?_map, ha]; rfl)) ?_
          walk_at "go"
          refine jx_seq rfl (.inr rfl) (L2.atI_nat (by rw [List.getElem?_map, hd]; rfl)) ?_
          walk_at "go"
          refine ap_same (hh i _ _ ha hd) ?_
          walk_at "go"
          exact ⟨rfl, rfl⟩
        · refine ⟨(List.range ds.length).map fun _ => true, ?_, ?_⟩
          · show some (Kd.lst, _) = _
            simp [List.map_map, Function.comp_def]
          · rw [all_true]; exact k
      | lst =>
        obtain ⟨as, rfl, hl, hs, hh⟩ := h
        have el : ((as.map E.d).length : Int) = ((ds.map E.d).length : Int) := by simp [hl]
        walk_at "go"
        refine je_all bx g_all (je_lcP bx (blk_ok hX (own := [("k", 3)]) (by decide +kernel)) (j := 3) (by decide) (fun Y hY => (hY.is hX).nmW rfl (by decide +kernel)) (ji_range1 g_range ?_) (by intro _; rfl)) (by intro _ _; rfl)
        walk_at "go"
        · simp only [List.length_map]; omega
        have ln : (ds.map E.d).length = ds.length := List.length_map _
        refine ⟨by rw [ln]; omega, fun _ => .bl true, ?_, ?_⟩
        · rintro i v acc hi hv Y hY
          obtain rfl : v = _ := hv
          have hi2 : i < ds.length := by rw [ln] at hi; omega
          have hd : ds[i]? = some ds[i] := List.getElem?_eq_getElem hi2
          have ha : as[i]? = some (as[i]'(by omega)) := List.getElem?_eq_getElem (by omega)
          have zi : (0 : Int) + i = i := Int.zero_add _
          have hYX := hY.is hX; have bY := hYX.bx; have e_law_same := c_law_same.at hYX (by decide +kernel); have r0Y := hYX.nmR (i := 0) (x := "answer") rfl (by first | exact Or.inl (by decide +kernel) | exact Or.inr (Or.inl (by decide +kernel)) | exact Or.inr (Or.inr (by decide +kernel))); have r3Y := hYX.nmR (i := 3) (x := "k") rfl (by first | exact Or.inl (by decide +kernel) | exact Or.inr (Or.inl (by decide +kernel)) | exact Or.inr (Or.inr (by decide +kernel))); have r1Y := hYX.nmR (i := 1) (x := "due") rfl (by first | exact Or.inl (by decide +kernel) | exact Or.inr (Or.inl (by decide +kernel)) | exact Or.inr (Or.inr (by decide +kernel)))
          rw [zi]
          walk_at "go"
          refine jx_seq rfl (.inl rfl) (L2.atI_nat (by rw [List.getElem?_map, ha]; rfl)) ?_
          walk_at "go"
          refine jx_seq rfl (.inl rfl) (L2.atI_nat (by rw [List.getElem?_map, hd]; rfl)) ?_
          walk_at "go"
          refine ap_same (hh i _ _ ha hd) ?_
          walk_at "go"
          exact ⟨rfl, rfl⟩
        · refine ⟨(List.range ds.length).map fun _ => true, ?_, ?_⟩
          · show some (Kd.lst, _) = _
            simp [List.map_map, Function.comp_def]
          · rw [all_true]; exact k
      | dct ks =>
        obtain ⟨ka, as, rfl, hl, hl2, nd, hs, hh⟩ := h
        have el : ((as.map E.d).length : Int) = ((ds.map E.d).length : Int) := by simp [hl]
        walk_at "go"
        refine je_all bx g_all (je_lcP bx (blk_ok hX (own := [("key", 2)]) (by decide +kernel)) (j := 2) (by decide) (fun Y hY => (hY.is hX).nmW rfl (by decide +kernel)) (ji_keys ?_) (by intro _; rfl)) (by intro _ _; rfl)
        walk_at "go"
        refine ⟨_, _, rfl, rfl, by omega, fun _ => .bl true, ?_, ?_⟩
        · rintro i v acc hi ⟨d, hd, rfl⟩ Y hY
          rw [List.getElem?_map] at hd
          have hk : ks[i]? = some ks[i] := List.getElem?_eq_getElem hi
          rw [hk] at hd
          cases hd
          have hi2 : i < ds.length := by omega
          have hv : ds[i]? = some ds[i] := List.getElem?_eq_getElem hi2
          have hkE : keyE (.d (kD ks[i])) = some ks[i] := by cases ks[i] <;> rfl
          obtain ⟨x, hx, hsm⟩ := hh i _ _ hk hv
          have hYX := hY.is hX; have bY := hYX.bx; have r2Y := hYX.nmR (i := 2) (x := "key") rfl (by first | exact Or.inl (by decide +kernel) | exact Or.inr (Or.inl (by decide +kernel)) | exact Or.inr (Or.inr (by decide +kernel))); have r0Y := hYX.nmR (i := 0) (x := "answer") rfl (by first | exact Or.inl (by decide +kernel) | exact Or.inr (Or.inl (by decide +kernel)) | exact Or.inr (Or.inr (by decide +kernel))); have e_law_same := c_law_same.at hYX (by decide +kernel); have r1Y := hYX.nmR (i := 1) (x := "due") rfl (by first | exact Or.inl (by decide +kernel) | exact Or.inr (Or.inl (by decide +kernel)) | exact Or.inr (Or.inr (by decide +kernel)))
          walk_at "go"
          · refine jx_dct bY.hu rfl hkE (by rw [lk_map, hx]; rfl) ?_
            walk_at "go"
            refine jx_dct bY.hu rfl hkE (lk_get (i := i) nd hk (by rw [List.getElem?_map, hv]; rfl)) ?_
            walk_at "go"
            refine ap_same hsm ?_
            walk_at "go"
            exact ⟨rfl, rfl⟩
          · rename_i hb
            rw [lk_memK hx] at hb
            cases hb
        · refine ⟨(List.range ks.length).map fun _ => true, ?_, ?_⟩
          · show some (Kd.lst, _) = _
            simp [List.map_map, Function.comp_def]
          · rw [all_true]; exact k
end
end
section
open PySem PySem.Spec PyProof.Rows L2 DL SE
local macro_rules | `(tactic| walk_at "je") => `(tactic| first
  | ((with_reducible refine' je_zfill ?_ ?z1 ?z2 ?z3); (case z1 => intro _ _; rfl); (case z2 => rfl); (case z3 => rfl))
  | ((with_reducible refine' je_ord ?zg ?_ ?zs); (case zg => with_reducible assumption); (case zs => intro _ _; rfl))
  | ((with_reducible refine' je_call0 ?zn ?zb ?zk ?_ ?z1); (case zn => with_reducible assumption); (case zb => with_reducible assumption); (case zk => first | exact Nat.le_refl _ | decide); (case z1 => decide)))
abbrev zl (z : Str) : List Nat := z.cps.toList
abbrev S0 (l : List Nat) : Str := ⟨l.toArray⟩
theorem S0_zl (z : Str) : S0 (zl z) = z := rfl
theorem zl_len (z : Str) : z.length = (zl z).length := Array.length_toList.symm
theorem zl_app (a b : Str) : zl (a ++ b) = zl a ++ zl b := Array.toList_append
theorem zl_inj {a b : Str} (h : zl a = zl b) : a = b := by
  cases a with
  | mk x => cases b with
    | mk y => exact congrArg Str.mk (Array.toList_inj.mp h)
theorem app_S0 (a b : List Nat) : (S0 a ++ S0 b : Str) = S0 (a ++ b) := zl_inj (by rw [zl_app])
theorem zl_cut (z : Str) (lo hi : Option Int) : zl (cutS z lo hi) = ((zl z).drop (HT.sIx (zl z).length 0 lo)).take (HT.sIx (zl z).length (zl z).length hi - HT.sIx (zl z).length 0 lo) := by
  rw [← zl_len]; rfl
theorem sIx_neg (n d k : Nat) (h : 0 < k) : HT.sIx n d (some (-(k : Int))) = n - k := by
  show (if (-(k : Int)) < 0 then (-(k : Int) + (n : Int)).toNat else min (-(k : Int)).toNat n) = n - k
  rw [if_pos (by omega)]; omega
theorem cut_txt (z : Str) : zl (cutS z none (some (-12))) = txt (zl z) := by
  have := sIx_neg (zl z).length (zl z).length 12 (by decide)
  rw [zl_cut, HT.sIx_none, show ((-12 : Int)) = -((12 : Nat) : Int) from rfl, this, List.drop_zero]
  rfl
theorem cut_10 (z : Str) : zl (cutS z (some (-10)) none) = d10 (zl z) := by
  have := sIx_neg (zl z).length 0 10 (by decide)
  rw [zl_cut, HT.sIx_none, show ((-10 : Int)) = -((10 : Nat) : Int) from rfl, this]
  unfold d10
  rw [List.take_of_length_le]
  rw [List.length_drop]; exact Nat.le_refl _
theorem cut_105 (z : Str) (h : 12 ≤ (zl z).length) : zl (cutS z (some (-10)) (some (-5))) = (d10 (zl z)).take 5 := by
  have a := sIx_neg (zl z).length 0 10 (by decide)
  have b := sIx_neg (zl z).length (zl z).length 5 (by decide)
  rw [zl_cut, show ((-10 : Int)) = -((10 : Nat) : Int) from rfl, show ((-5 : Int)) = -((5 : Nat) : Int) from rfl, a, b]
  unfold d10
  congr 1; omega
theorem cut_5 (z : Str) (h : 12 ≤ (zl z).length) : zl (cutS z (some (-5)) none) = (d10 (zl z)).drop 5 := by
  have b := sIx_neg (zl z).length 0 5 (by decide)
  rw [zl_cut, HT.sIx_none, show ((-5 : Int)) = -((5 : Nat) : Int) from rfl, b]
  unfold d10
  rw [List.drop_drop, List.take_of_length_le (by rw [List.length_drop]; exact Nat.le_refl _)]
  congr 1; omega
theorem cut_lo (z : Str) (k : Nat) : zl (cutS z none (some (k : Int))) = (zl z).take k := by
  rw [zl_cut, HT.sIx_none, HT.sIx_nat, List.drop_zero, Nat.sub_zero]
  by_cases h : k ≤ (zl z).length
  · rw [Nat.min_eq_left h]
  · rw [Nat.min_eq_right (by omega), List.take_length, List.take_of_length_le (by omega)]
theorem cut_hi (z : Str) (k : Nat) : zl (cutS z (some (k : Int)) none) = (zl z).drop k := by
  rw [zl_cut, HT.sIx_none, HT.sIx_nat]
  by_cases h : k ≤ (zl z).length
  · rw [Nat.min_eq_left h, List.take_of_length_le (by rw [List.length_drop]; exact Nat.le_refl _)]
  · rw [Nat.min_eq_right (by omega), Nat.sub_self, List.take_zero, List.drop_of_length_le (by omega)]
def R_issign : RP := fun ds post => ∃ c : Nat, ds = [.str ⟨#[c]⟩] ∧ post (.dat (.bl (decide (c ∈ sgs))))
theorem ap_issign {c : Nat} {post : Rt → Prop} (q : post (.dat (.bl (decide (c ∈ sgs))))) : R_issign [.str ⟨#[c]⟩] post := ⟨c, rfl, q⟩
theorem mo_issign : MonoP R_issign := fun ds p q m ⟨a, b, h⟩ => ⟨a, b, m _ h⟩
def numOf (c : Nat) : Int := if c ∈ sgs then (c : Int) - 31 else 0
def R_numof : RP := fun ds post => ∃ c : Nat, ds = [.str ⟨#[c]⟩] ∧ post (.dat (.int (numOf c)))
theorem ap_numof {c : Nat} {post : Rt → Prop} (q : post (.dat (.int (numOf c)))) : R_numof [.str ⟨#[c]⟩] post := ⟨c, rfl, q⟩
theorem mo_numof : MonoP R_numof := fun ds p q m ⟨a, b, h⟩ => ⟨a, b, m _ h⟩
abbrev sumD (l : List Nat) : D := .nd .tup [.int (T1 l % P), .int (T2 1 l % P)]
def R_sums : RP := fun ds post => ∃ z : Str, ds = [.str z] ∧ Sg (zl z) ∧ z.length ≤ 100000 ∧ post (.dat (sumD (zl z)))
theorem ap_sums {z : Str} {post : Rt → Prop} (h : Sg (zl z)) (hl : z.length ≤ 100000) (q : post (.dat (sumD (zl z)))) : R_sums [.str z] post := ⟨z, rfl, h, hl, q⟩
theorem mo_sums : MonoP R_sums := fun ds p q m ⟨a, b, c, d, h⟩ => ⟨a, b, c, d, m _ h⟩
def R_sealed : RP := fun ds post => ∃ z : Str, ds = [.str z] ∧ Sg (zl z) ∧ z.length ≤ 100000 ∧ post (.dat (.str (S0 (sl (zl z)))))
theorem ap_sealed {z : Str} {post : Rt → Prop} (h : Sg (zl z)) (hl : z.length ≤ 100000) (q : post (.dat (.str (S0 (sl (zl z)))))) : R_sealed [.str z] post := ⟨z, rfl, h, hl, q⟩
theorem mo_sealed : MonoP R_sealed := fun ds p q m ⟨a, b, c, d, h⟩ => ⟨a, b, c, d, m _ h⟩
section
variable {P : Program} {w : World} {K : PySem.W.Frag} {mg : Str → Option Value} {base : Heap}
theorem ok_issign {f : Addr} {fd : FuncData} (C : Bs4 mg) (Fu : Fun K "is_sign" "is_sign" s_is_sign f fd) : FnOk P w K mg base CX0 1 f fd ["char"] (spP K R_issign) := by
  refine fn_P Fu sc_is_sign (fun ds post h => ?_) fun X F ds post hX hfn hH h => ?_
  · obtain ⟨_, rfl, _⟩ := h
    rfl
  · obtain ⟨c, rfl, k⟩ := h
    have bx := hX.bx
    have r0 := hX.nmR (i := 0) (x := "char") rfl (by first | exact Or.inl (by decide +kernel) | exact Or.inr (Or.inl (by decide +kernel))); have w0 := hX.nmW (i := 0) (x := "char") rfl (by decide +kernel); have g_len := hX.glb (x := "len") (by decide +kernel) C.b_len
    have gS := hX.gcS (x := "SIGNS") (by decide +kernel) C.k_SIGNS
    have hz : (⟨#[c]⟩ : Str).length ≤ sizeLine := by rw [sizeLine_eq]; show 1 ≤ _; decide
    conv => (arg 3; whnf)
    walk_at "go"
    · refine jr_inS ?_
      exact k
    · rename_i hb
      exact absurd rfl hb
theorem ok_numof {f : Addr} {fd : FuncData} (C : Bs4 mg) (c_is_sign : CaP P w K mg base "is_sign" 1 R_issign) (Fu : Fun K "number_of" "number_of" s_number_of f fd) : FnOk P w K mg base CX0 2 f fd ["char"] (spP K R_numof) := by
  refine fn_P Fu sc_number_of (fun ds post h => ?_) fun X F ds post hX hfn hH h => ?_
  · obtain ⟨_, rfl, _⟩ := h
    rfl
  · obtain ⟨c, rfl, k⟩ := h
    have bx := hX.bx
    have r0 := hX.nmR (i := 0) (x := "char") rfl (by first | exact Or.inl (by decide +kernel) | exact Or.inr (Or.inl (by decide +kernel))); have w0 := hX.nmW (i := 0) (x := "char") rfl (by decide +kernel); have d_is_sign := c_is_sign.at hX (by decide +kernel); have g_ord := hX.glb (x := "ord") (by decide +kernel) C.b_ord
    conv => (arg 3; whnf)
    walk_at "go"
    refine ap_issign ?_
    unfold numOf at k
    walk_at "go"
    all_goals rename_i hb
    · rw [if_pos hb] at k
      exact k
    · rw [if_neg hb] at k
      exact k
end
end
section
open PySem PySem.Spec PyProof.Rows L2 DL SE
local macro_rules | `(tactic| walk_at "je") => `(tactic| first
  | ((with_reducible refine' je_zfill ?_ ?z1 ?z2 ?z3); (case z1 => intro _ _; rfl); (case z2 => rfl); (case z3 => rfl))
  | ((with_reducible refine' je_ord ?zg ?_ ?zs); (case zg => with_reducible assumption); (case zs => intro _ _; rfl))
  | ((with_reducible refine' je_call0 ?zn ?zb ?zk ?_ ?z1); (case zn => with_reducible assumption); (case zb => with_reducible assumption); (case zk => first | exact Nat.le_refl _ | decide); (case z1 => decide)))
theorem zl_get {z : Str} {i cp : Nat} (h : z.cps[i]? = some cp) : (zl z)[i]? = some cp := by rw [Array.getElem?_toList]; exact h
theorem take_T1 {l : List Nat} {i c : Nat} (h : l[i]? = some c) : T1 (l.take (i + 1)) = T1 (l.take i) + ((c : Int) - 31) := by
  rw [List.take_add_one, h, T1_app]
  show _ + (((c : Int) - 31) + 0) = _
  omega
theorem take_T2 {l : List Nat} {i c : Nat} (h : l[i]? = some c) : T2 1 (l.take (i + 1)) = T2 1 (l.take i) + ((i : Int) + 1) * ((c : Int) - 31) := by
  have li := (List.getElem?_eq_some_iff.mp h).1
  rw [List.take_add_one, h, T2_app]
  show _ + ((1 + ((l.take i).length : Int)) * ((c : Int) - 31) + 0) = _
  rw [List.length_take, Nat.min_eq_left (by omega), Int.add_comm 1]; omega
theorem pl (x : Int) : (x % SE.P).natAbs.log2 < 1920 := by
  have h := pE x
  have hb : Bd 17 (x % SE.P) := by
    show (x % SE.P).natAbs < 2 ^ 17
    omega
  exact Nat.lt_trans (hb.lg (by decide)) (by decide)
theorem sz_str {n : Nat} (h : n ≤ 1000000) : n ≤ sizeLine := by rw [sizeLine_eq]; omega
theorem seal_eq (z : Str) : ((z ++ Str.ofString " #") ++ Txt.zfill (Str.ofString (toString (T1 (zl z) % SE.P))) 5) ++ Txt.zfill (Str.ofString (toString (T2 1 (zl z) % SE.P))) 5 = S0 (sl (zl z)) := by
  refine zl_inj ?_
  rw [zl_app, zl_app, zl_app]
  show ((zl z ++ [32, 35]) ++ dg _) ++ dg _ = sl (zl z)
  unfold sl tl
  simp
theorem len_app (a b : Str) : (a ++ b).length = a.length + b.length := by rw [zl_len, zl_app, List.length_append, ← zl_len, ← zl_len]
theorem z5_len (x : Int) : (Txt.zfill (Str.ofString (toString (x % SE.P))) 5).length = 5 := by
  rw [zl_len]
  exact (dg_all (pE x).1 (pE x).2).1
section
variable {P : Program} {w : World} {K : PySem.W.Frag} {mg : Str → Option Value} {base : Heap}
theorem ok_sums {f : Addr} {fd : FuncData} (C : Bs4 mg) (c_number_of : CaP P w K mg base "number_of" 2 R_numof) (Fu : Fun K "sums_of" "sums_of" s_sums_of f fd) : FnOk P w K mg base CX0 3 f fd ["text"] (spP K R_sums) := by
  refine fn_P Fu sc_sums_of (fun ds post h => ?_) fun X F ds post hX hfn hH h => ?_
  · obtain ⟨_, rfl, _⟩ := h
    rfl
  · obtain ⟨z, rfl, hs, hl, k⟩ := h
    have bx := hX.bx
    have r0 := hX.nmR (i := 0) (x := "text") rfl (by first | exact Or.inl (by decide +kernel) | exact Or.inr (Or.inl (by decide +kernel))); have w0 := hX.nmW (i := 0) (x := "text") rfl (by decide +kernel); have r1 := hX.nmR (i := 1) (x := "first") rfl (by first | exact Or.inl (by decide +kernel) | exact Or.inr (Or.inl (by decide +kernel))); have w1 := hX.nmW (i := 1) (x := "first") rfl (by decide +kernel); have r2 := hX.nmR (i := 2) (x := "second") rfl (by first | exact Or.inl (by decide +kernel) | exact Or.inr (Or.inl (by decide +kernel))); have w2 := hX.nmW (i := 2) (x := "second") rfl (by decide +kernel); have r3 := hX.nmR (i := 3) (x := "at") rfl (by first | exact Or.inl (by decide +kernel) | exact Or.inr (Or.inl (by decide +kernel))); have w3 := hX.nmW (i := 3) (x := "at") rfl (by decide +kernel); have r4 := hX.nmR (i := 4) (x := "char") rfl (by first | exact Or.inl (by decide +kernel) | exact Or.inr (Or.inl (by decide +kernel))); have w4 := hX.nmW (i := 4) (x := "char") rfl (by decide +kernel); have r5 := hX.nmR (i := 5) (x := "number") rfl (by first | exact Or.inl (by decide +kernel) | exact Or.inr (Or.inl (by decide +kernel))); have w5 := hX.nmW (i := 5) (x := "number") rfl (by decide +kernel); have g_enumerate := hX.glb (x := "enumerate") (by decide +kernel) C.b_enumerate; have d_number_of := c_number_of.at hX (by decide +kernel)
    have gM := hX.gcI (x := "MODULUS") (by decide +kernel) C.k_MODULUS
    conv => (arg 3; whnf)
    walk_at "go"
    refine jss_for bx (fun i s => ∃ o3 o4 o5, s = ⟨[some (.d (.str z)), some (.d (.int (T1 ((zl z).take i)))), some (.d (.int (T2 1 ((zl z).take i)))), o3, o4, o5], [], 0⟩) (ji_enumS g_enumerate ?_ (by intro _ _; rfl)) (by intro _; rfl)
    walk_at "go"
    refine ⟨⟨_, _, _, rfl⟩, ?_, ?_⟩
    · rintro i v s' hi ⟨cp, hcp, rfl⟩ ⟨o3, o4, o5, rfl⟩
      have hg := zl_get hcp
      have ms : cp ∈ sgs := hs cp (List.mem_of_getElem? hg)
      have il : i < 100000 := by have : z.cps.size = z.length := rfl; omega
      walk_at "go"
      refine ap_numof ?_
      have en : numOf cp = (cp : Int) - 31 := if_pos ms
      rw [en]
      walk_at "go"
      refine ⟨_, _, _, by rw [take_T1 hg, take_T2 hg]; rfl⟩
    · rintro s' ⟨o3, o4, o5, rfl⟩
      have el : (zl z).take z.cps.size = zl z := by rw [← Array.length_toList, List.take_length]
      rw [el]
      walk_at "go"
      exact k
theorem ok_sealed {f : Addr} {fd : FuncData} (C : Bs4 mg) (c_sums_of : CaP P w K mg base "sums_of" 3 R_sums) (Fu : Fun K "sealed" "sealed" s_sealed f fd) : FnOk P w K mg base CX0 4 f fd ["text"] (spP K R_sealed) := by
  refine fn_P Fu sc_sealed (fun ds post h => ?_) fun X F ds post hX hfn hH h => ?_
  · obtain ⟨_, rfl, _⟩ := h
    rfl
  · obtain ⟨z, rfl, hs, hl, k⟩ := h
    have bx := hX.bx
    have r0 := hX.nmR (i := 0) (x := "text") rfl (by first | exact Or.inl (by decide +kernel) | exact Or.inr (Or.inl (by decide +kernel))); have w0 := hX.nmW (i := 0) (x := "text") rfl (by decide +kernel); have r1 := hX.nmR (i := 1) (x := "first") rfl (by first | exact Or.inl (by decide +kernel) | exact Or.inr (Or.inl (by decide +kernel))); have w1 := hX.nmW (i := 1) (x := "first") rfl (by decide +kernel); have r2 := hX.nmR (i := 2) (x := "second") rfl (by first | exact Or.inl (by decide +kernel) | exact Or.inr (Or.inl (by decide +kernel))); have w2 := hX.nmW (i := 2) (x := "second") rfl (by decide +kernel); have d_sums_of := c_sums_of.at hX (by decide +kernel); have g_str := hX.glb (x := "str") (by decide +kernel) C.b_str
    conv => (arg 3; whnf)
    walk_at "go"
    refine ap_sums hs hl ?_
    walk_at "go"
    · refine ⟨pl _, _, rfl, ?_⟩
      walk_at "go"
      refine ⟨by decide, ?_⟩
      walk_at "go"
      · refine ⟨pl _, _, rfl, ?_⟩
        walk_at "go"
        refine ⟨by decide, ?_⟩
        walk_at "go"
        · rw [seal_eq]; exact k
        · rw [len_app, len_app, z5_len, z5_len]
          exact sz_str (by show z.length + 2 + 5 + 5 ≤ _; omega)
      · rw [len_app, z5_len]
        exact sz_str (by show z.length + 2 + 5 ≤ _; omega)
    · exact sz_str (by show z.length + 2 ≤ _; omega)
end
end
section
open PySem PySem.Spec PyProof.Rows L2 DL SE
local macro_rules | `(tactic| walk_at "je") => `(tactic| first
  | ((with_reducible refine' je_zfill ?_ ?z1 ?z2 ?z3); (case z1 => intro _ _; rfl); (case z2 => rfl); (case z3 => rfl))
  | ((with_reducible refine' je_ord ?zg ?_ ?zs); (case zg => with_reducible assumption); (case zs => intro _ _; rfl))
  | ((with_reducible refine' je_call0 ?zn ?zb ?zk ?_ ?z1); (case zn => with_reducible assumption); (case zb => with_reducible assumption); (case zk => first | exact Nat.le_refl _ | decide); (case z1 => decide)))
theorem range_df : ∀ (a b : List Nat), a.length = b.length → ((List.range a.length).filter fun i => !decide (a.getD i 0 = b.getD i 0)).length = df a b
  | [], b, _ => by cases b <;> rfl
  | x :: a, [], h => by simp at h
  | x :: a, y :: b, h => by
    have ih := range_df a b (by simpa using h)
    rw [List.length_cons, List.range_succ_eq_map, List.filter_cons, List.filter_map, df]
    have e : ((fun i => !decide ((x :: a).getD i 0 = (y :: b).getD i 0)) ∘ Nat.succ) = fun i => !decide (a.getD i 0 = b.getD i 0) := by
      funext i
      simp
    rw [e]
    by_cases hxy : x = y
    · subst hxy
      simp only [List.getD_cons_zero, decide_true, Bool.not_true, Bool.false_eq_true, if_false, List.length_map, if_true]
      omega
    · rw [if_neg hxy, if_pos (by simp [hxy]), List.length_cons, List.length_map, ih]; omega
theorem one_inj {c d : Nat} : decide ((⟨#[c]⟩ : Str) = ⟨#[d]⟩) = decide (c = d) := decide_eq_decide.mpr ⟨fun h => by cases h; rfl, fun h => by rw [h]⟩
theorem dig_in {c : Nat} : c ∈ (Str.ofString "0123456789").cps.toList ↔ 48 ≤ c ∧ c ≤ 57 := by
  have e : (Str.ofString "0123456789").cps.toList = [48, 49, 50, 51, 52, 53, 54, 55, 56, 57] := by decide +kernel
  rw [e]
  simp only [List.mem_cons, List.not_mem_nil, or_false]
  omega
def R_diff : RP := fun ds post => ∃ a b : Str, ds = [.str a, .str b] ∧ (zl a).length = (zl b).length ∧ a.length ≤ 200000 ∧ post (.dat (.int (df (zl a) (zl b) : Nat)))
theorem ap_diff {a b : Str} {post : Rt → Prop} (h : (zl a).length = (zl b).length) (hl : a.length ≤ 200000) (q : post (.dat (.int (df (zl a) (zl b) : Nat)))) : R_diff [.str a, .str b] post := ⟨a, b, rfl, h, hl, q⟩
theorem mo_diff : MonoP R_diff := fun ds p q m ⟨a, b, c, d, e, h⟩ => ⟨a, b, c, d, e, m _ h⟩
def R_istext : RP := fun ds post => ∃ z : Str, ds = [.str z] ∧ Sg (zl z) ∧ z.length ≤ 100000 ∧ post (.dat (.bl (decide (z.length ≤ 90000))))
theorem ap_istext {z : Str} {post : Rt → Prop} (h : Sg (zl z)) (hl : z.length ≤ 100000) (q : post (.dat (.bl (decide (z.length ≤ 90000))))) : R_istext [.str z] post := ⟨z, rfl, h, hl, q⟩
theorem mo_istext : MonoP R_istext := fun ds p q m ⟨a, b, c, d, h⟩ => ⟨a, b, c, d, m _ h⟩
def R_rs : RP := fun ds post => ∃ z : Str, ds = [.str z] ∧ (zl z).length = 5 ∧ (NumText.AllDigits (zl z) → post (.dat (.int (NumText.digitsVal (zl z) : Nat)))) ∧ (¬ NumText.AllDigits (zl z) → post (.dat .non))
theorem ap_rs {z : Str} {post : Rt → Prop} (h : (zl z).length = 5) (q1 : NumText.AllDigits (zl z) → post (.dat (.int (NumText.digitsVal (zl z) : Nat)))) (q2 : ¬ NumText.AllDigits (zl z) → post (.dat .non)) : R_rs [.str z] post := ⟨z, rfl, h, q1, q2⟩
theorem mo_rs : MonoP R_rs := fun ds p q m ⟨a, b, c, h1, h2⟩ => ⟨a, b, c, fun z => m _ (h1 z), fun z => m _ (h2 z)⟩
def R_inv : RP := fun ds post => ∃ a : Int, ds = [.int a] ∧ 0 < a ∧ a < SE.P ∧ ∀ r : Int, 0 ≤ r → r < SE.P → r * a % SE.P = 1 → post (.dat (.int r))
theorem ap_inv {a : Int} {post : Rt → Prop} (h : 0 < a) (hl : a < SE.P) (q : ∀ r : Int, 0 ≤ r → r < SE.P → r * a % SE.P = 1 → post (.dat (.int r))) : R_inv [.int a] post := ⟨a, rfl, h, hl, q⟩
theorem mo_inv : MonoP R_inv := fun ds p q m ⟨a, b, c, d, h⟩ => ⟨a, b, c, d, fun r h1 h2 h3 => m _ (h r h1 h2 h3)⟩
def ivMu (s : S) : Nat := match s.sl with
  | [_, _, _, some (.d (.int l))] => l.toNat
  | _ => 0
theorem iv_lt {c f w l : Nat} (h : IvS c f w l) : f < SE.p ∧ w < SE.p := ⟨h.2.1, h.2.2⟩
section
variable {P : Program} {w : World} {K : PySem.W.Frag} {mg : Str → Option Value} {base : Heap}
theorem ok_diff {f : Addr} {fd : FuncData} (C : Bs4 mg) (Fu : Fun K "differing" "differing" s_differing f fd) : FnOk P w K mg base CX0 1 f fd ["one", "other"] (spP K R_diff) := by
  refine fn_P Fu sc_differing (fun ds post h => ?_) fun X F ds post hX hfn hH h => ?_
  · obtain ⟨_, _, rfl, _⟩ := h
    rfl
  · obtain ⟨a, b, rfl, hl, hs, k⟩ := h
    have bx := hX.bx
    have r0 := hX.nmR (i := 0) (x := "one") rfl (by first | exact Or.inl (by decide +kernel) | exact Or.inr (Or.inl (by decide +kernel))); have w0 := hX.nmC (i := 0) (x := "one") rfl (by decide +kernel) (hfn _); have r1 := hX.nmR (i := 1) (x := "other") rfl (by first | exact Or.inl (by decide +kernel) | exact Or.inr (Or.inl (by decide +kernel))); have w1 := hX.nmC (i := 1) (x := "other") rfl (by decide +kernel) (hfn _); have g_len := hX.glb (x := "len") (by decide +kernel) C.b_len; have g_range := hX.glb (x := "range") (by decide +kernel) C.b_range
    have za := zl_len a
    have zb := zl_len b
    conv => (arg 3; whnf)
    refine jss_ret (je_len g_len (je_lcPT bx (blk_ok hX (own := [("at", 2)]) (by decide +kernel)) (j := 2) (by decide) (fun Y hY => (hY.is hX).nmW rfl (by decide +kernel)) (ji_range1 g_range ?_ (by intro _ _; rfl)) (by intro _; rfl)) (by intro _ _; rfl))
    walk_at "go"
    · omega
    · refine ⟨by omega, fun i => .int (i : Int), fun i => !decide ((zl a).getD i 0 = (zl b).getD i 0), fun i v acc hi hv Y hY => ?_, ?_⟩
      · obtain rfl : v = _ := hv
        have hi : i < a.length := by omega
        have i1 : i < (zl a).length := by omega
        have i2 : i < (zl b).length := by omega
        have zi : (0 : Int) + i = i := Int.zero_add _
        have g1 : (zl a).getD i 0 = (zl a)[i] := by rw [List.getD_eq_getElem?_getD, List.getElem?_eq_getElem i1]; rfl
        have g2 : (zl b).getD i 0 = (zl b)[i] := by rw [List.getD_eq_getElem?_getD, List.getElem?_eq_getElem i2]; rfl
        dsimp only
        rw [g1, g2]
        have hYX := hY.is hX; have bY := hYX.bx; have r2Y := hYX.nmR (i := 2) (x := "at") rfl (by first | exact Or.inl (by decide +kernel) | exact Or.inr (Or.inl (by decide +kernel)) | exact Or.inr (Or.inr (by decide +kernel))); have r0Y := hYX.nmR (i := 0) (x := "one") rfl (by first | exact Or.inl (by decide +kernel) | exact Or.inr (Or.inl (by decide +kernel)) | exact Or.inr (Or.inr (by decide +kernel))); have r1Y := hYX.nmR (i := 1) (x := "other") rfl (by first | exact Or.inl (by decide +kernel) | exact Or.inr (Or.inl (by decide +kernel)) | exact Or.inr (Or.inr (by decide +kernel)))
        rw [zi]
        refine ⟨?_, fun _ => ?_⟩
        · walk_at "go"
          refine jx_str (sz_str (by omega)) (L2.atI_nat (List.getElem?_eq_getElem i1)) ?_
          walk_at "go"
          refine jx_str (sz_str (by omega)) (L2.atI_nat (List.getElem?_eq_getElem i2)) ?_
          walk_at "go"
          rw [one_inj]
          exact ⟨rfl, rfl⟩
        · walk_at "go"
          exact ⟨rfl, rfl⟩
      · refine jv_len_nd rfl rfl ?_
        rw [List.length_map, List.length_map]
        have e := range_df (zl a) (zl b) hl
        have e2 : ((a.length : Int)).toNat = (zl a).length := by omega
        rw [e2, e]
        exact k
    · exact sz_str (by omega)
theorem ok_istext {f : Addr} {fd : FuncData} (C : Bs4 mg) (c_is_sign : CaP P w K mg base "is_sign" 1 R_issign) (Fu : Fun K "is_text" "is_text" s_is_text f fd) : FnOk P w K mg base CX0 2 f fd ["text"] (spP K R_istext) := by
  refine fn_P Fu sc_is_text (fun ds post h => ?_) fun X F ds post hX hfn hH h => ?_
  · obtain ⟨_, rfl, _⟩ := h
    rfl
  · obtain ⟨z, rfl, hs, hl, k⟩ := h
    have bx := hX.bx
    have r0 := hX.nmR (i := 0) (x := "text") rfl (by first | exact Or.inl (by decide +kernel) | exact Or.inr (Or.inl (by decide +kernel))); have w0 := hX.nmW (i := 0) (x := "text") rfl (by decide +kernel); have g_len := hX.glb (x := "len") (by decide +kernel) C.b_len; have g_all := hX.glb (x := "all") (by decide +kernel) C.b_all
    have gL := hX.gcI (x := "LENGTH_MOST") (by decide +kernel) C.k_LENGTH_MOST
    conv => (arg 3; whnf)
    walk_at "go"
    · refine je_all bx g_all (je_lcP bx (blk_ok hX (own := [("char", 1)]) (by decide +kernel)) (j := 1) (by decide) (fun Y hY => (hY.is hX).nmW rfl (by decide +kernel)) (ji_str ?_) (by intro _; rfl)) (by intro _ _; rfl)
      walk_at "go"
      rename_i hb
      refine ⟨rfl, by have : z.cps.size = z.length := rfl; omega, fun _ => .bl true, ?_, ?_⟩
      · rintro i v acc hi ⟨cp, hcp, rfl⟩ Y hY
        have ms : cp ∈ sgs := hs cp (List.mem_of_getElem? (zl_get hcp))
        have hYX := hY.is hX; have bY := hYX.bx; have e_is_sign := c_is_sign.at hYX (by decide +kernel); have r1Y := hYX.nmR (i := 1) (x := "char") rfl (by first | exact Or.inl (by decide +kernel) | exact Or.inr (Or.inl (by decide +kernel)) | exact Or.inr (Or.inr (by decide +kernel)))
        walk_at "go"
        refine ap_issign ?_
        rw [decide_eq_true ms]
        walk_at "go"
        exact ⟨rfl, rfl⟩
      · refine ⟨(List.range z.cps.size).map fun _ => true, ?_, ?_⟩
        · show some (Kd.lst, _) = _
          simp [List.map_map, Function.comp_def]
        · rw [all_true]
          rw [decide_eq_true (by omega)] at k
          exact k
    · rename_i hb
      rw [decide_eq_false (by omega)] at k
      exact k
    · exact sz_str (by omega)
theorem ok_rs {f : Addr} {fd : FuncData} (C : Bs4 mg) (Fu : Fun K "read_sum" "read_sum" s_read_sum f fd) : FnOk P w K mg base CX0 1 f fd ["word"] (spP K R_rs) := by
  refine fn_P Fu sc_read_sum (fun ds post h => ?_) fun X F ds post hX hfn hH h => ?_
  · obtain ⟨_, rfl, _⟩ := h
    rfl
  · obtain ⟨z, rfl, hl, k1, k2⟩ := h
    have bx := hX.bx
    have r0 := hX.nmR (i := 0) (x := "word") rfl (by first | exact Or.inl (by decide +kernel) | exact Or.inr (Or.inl (by decide +kernel))); have w0 := hX.nmW (i := 0) (x := "word") rfl (by decide +kernel); have r1 := hX.nmR (i := 1) (x := "char") rfl (by first | exact Or.inl (by decide +kernel) | exact Or.inr (Or.inl (by decide +kernel))); have w1 := hX.nmW (i := 1) (x := "char") rfl (by decide +kernel); have g_int := hX.glb (x := "int") (by decide +kernel) C.b_int
    have zs : z.cps.size = 5 := by rw [← Array.length_toList]; exact hl
    conv => (arg 3; whnf)
    refine jss_for bx (fun i s => ∃ o1, (∀ c ∈ (zl z).take i, 48 ≤ c ∧ c ≤ 57) ∧ s = ⟨[some (.d (.str z)), o1], [], 0⟩) (ji_str ?_) (by intro _; rfl)
    walk_at "go"
    refine ⟨⟨_, by simp, rfl⟩, ?_, ?_⟩
    · rintro i v s' hi ⟨cp, hcp, rfl⟩ ⟨o1, hd, rfl⟩
      have hg := zl_get hcp
      walk_at "go"
      · refine jr_ninS ?_
        walk_at "go"
        · rename_i hb
          refine k2 fun z => hb (dig_in.mpr (z _ (List.mem_of_getElem? hg)))
        · rename_i hb
          refine ⟨_, fun c hc => ?_, rfl⟩
          rw [List.take_add_one, hg] at hc
          rcases List.mem_append.mp hc with hc | hc
          · exact hd c hc
          · obtain rfl : c = cp := by simpa using hc
            exact dig_in.mp hb
    · rintro s' ⟨o1, hd, rfl⟩
      rw [zs, ← hl, List.take_length] at hd
      refine jss_ret (je_ints g_int ?_ (by intro _ _; rfl))
      walk_at "go"
      refine ⟨z, _, rfl, dg_read hd (by rw [zl_len]; exact hl), by rw [zl_len, hl]; decide, ?_⟩
      exact k1 hd
theorem ok_inv {f : Addr} {fd : FuncData} (C : Bs4 mg) (Fu : Fun K "inverse" "inverse" s_inverse f fd) : FnOk P w K mg base CX0 1 f fd ["number"] (spP K R_inv) := by
  refine fn_P Fu sc_inverse (fun ds post h => ?_) fun X F ds post hX hfn hH h => ?_
  · obtain ⟨_, rfl, _⟩ := h
    rfl
  · obtain ⟨m, rfl, h0, h1, k⟩ := h
    have bx := hX.bx
    have r0 := hX.nmR (i := 0) (x := "number") rfl (by first | exact Or.inl (by decide +kernel) | exact Or.inr (Or.inl (by decide +kernel))); have w0 := hX.nmW (i := 0) (x := "number") rfl (by decide +kernel); have r1 := hX.nmR (i := 1) (x := "found") rfl (by first | exact Or.inl (by decide +kernel) | exact Or.inr (Or.inl (by decide +kernel))); have w1 := hX.nmW (i := 1) (x := "found") rfl (by decide +kernel); have r2 := hX.nmR (i := 2) (x := "power") rfl (by first | exact Or.inl (by decide +kernel) | exact Or.inr (Or.inl (by decide +kernel))); have w2 := hX.nmW (i := 2) (x := "power") rfl (by decide +kernel); have r3 := hX.nmR (i := 3) (x := "left") rfl (by first | exact Or.inl (by decide +kernel) | exact Or.inr (Or.inl (by decide +kernel))); have w3 := hX.nmW (i := 3) (x := "left") rfl (by decide +kernel)
    have gM := hX.gcI (x := "MODULUS") (by decide +kernel) C.k_MODULUS
    obtain ⟨m, rfl⟩ := Int.eq_ofNat_of_zero_le (Int.le_of_lt h0)
    have hP : SE.P = 99991 := rfl
    have hp : SE.p = 99991 := rfl
    have m0 : 0 < m := by omega
    have m1 : m < SE.p := by omega
    have is0 := iv_start m1
    have ie := iv_inv m0 m1
    generalize m ^ (SE.p - 2) % SE.p = cc at is0 ie
    have e2 : SE.p - 2 = 99989 := rfl
    rw [e2] at is0
    conv => (arg 3; whnf)
    walk_at "go"
    refine jss_while bx (fun s => ∃ f v l : Nat, IvS cc f v l ∧ s = ⟨[some (.d (.int m)), some (.d (.int f)), some (.d (.int v)), some (.d (.int l))], [], 0⟩) ivMu ⟨1, m, 99989, is0, rfl⟩ ?_
    rintro s ⟨f, v, l, hI, rfl⟩
    obtain ⟨f1, w1⟩ := iv_lt hI
    walk_at "go"
    · rename_i hb
      have l0 : 0 < l := by omega
      refine jss_ifM (fun s1 => ∃ f' : Nat, IvS cc f' (v * v % SE.p) (l / 2) ∧ f' < SE.p ∧ s1 = ⟨[some (.d (.int m)), some (.d (.int f')), some (.d (.int v)), some (.d (.int l))], [], 0⟩) ?_ ?_
      · walk_at "go"
        refine jr_band ?_
        rw [PyProof.Rows.bitAnd_m1]
        iterate 6 walk_at "st"
        · rename_i ho
          iterate 5 walk_at "st"
          refine jr_mod (by decide) ?_
          refine jss_nilT ⟨f * v % SE.p, iv_odd hI (by omega), Nat.mod_lt _ (by decide), ?_⟩
          rw [show (((f * v % SE.p : Nat) : Int)) = (f : Int) * v % 99991 by rw [Int.natCast_emod, Int.natCast_mul]; rfl]
          rfl
        · rename_i ho
          exact jss_nilT ⟨f, iv_even hI (by omega), f1, rfl⟩
      · rintro s1 ⟨f', hI', f1', rfl⟩
        iterate 7 walk_at "st"
        refine jr_mod (by decide) ?_
        iterate 5 walk_at "st"
        refine jss_nil (P := Po.mk _ _ _ _) ⟨⟨f', v * v % SE.p, l / 2, hI', ?_⟩, ?_⟩
        · rw [show (((v * v % SE.p : Nat) : Int)) = (v : Int) * v % 99991 by rw [Int.natCast_emod, Int.natCast_mul]; rfl]
          rfl
        · show ((l : Int) / 2).toNat < (l : Int).toNat
          omega
    · rename_i hb
      obtain rfl : l = 0 := by omega
      have e := iv_end hI
      subst e
      refine k _ (by omega) (by omega) ?_
      have h2 : ((f * m % SE.p : Nat) : Int) = 1 := by rw [ie]; rfl
      rw [← h2]
      simp only [Int.natCast_emod, Int.natCast_mul]
      rfl
end
end
section
open PySem PySem.Spec PyProof.Rows L2 DL SE
local macro_rules | `(tactic| walk_at "je") => `(tactic| first
  | ((with_reducible refine' je_zfill ?_ ?z1 ?z2 ?z3); (case z1 => intro _ _; rfl); (case z2 => rfl); (case z3 => rfl))
  | ((with_reducible refine' je_ord ?zg ?_ ?zs); (case zg => with_reducible assumption); (case zs => intro _ _; rfl))
  | ((with_reducible refine' je_call0 ?zn ?zb ?zk ?_ ?z1); (case zn => with_reducible assumption); (case zb => with_reducible assumption); (case zk => first | exact Nat.le_refl _ | decide); (case z1 => decide)))
def R_sg : RP := fun ds post => ds = [] ∧ post (.dat (.str SG))
theorem ap_sg {post : Rt → Prop} (q : post (.dat (.str SG))) : R_sg [] post := ⟨rfl, q⟩
theorem mo_sg : MonoP R_sg := fun ds p q m ⟨a, h⟩ => ⟨a, m _ h⟩
section
variable {P : Program} {w : World} {K : PySem.W.Frag} {mg : Str → Option Value} {base : Heap}
theorem ok_lsigns {f : Addr} {fd : FuncData} (Fu : Fun K "_law_signs" "_law_signs" s_law_signs f fd) : FnOk P w K mg base CX0 1 f fd [] (spP K R_sg) := by
  refine fn_P Fu sc_law_signs (fun ds post h => ?_) fun X F ds post hX hfn hH h => ?_
  · obtain ⟨rfl, _⟩ := h
    rfl
  · obtain ⟨rfl, k⟩ := h
    have bx := hX.bx
    conv => (arg 3; whnf)
    walk_at "go"
    exact k
theorem ok_lnumbers {f : Addr} {fd : FuncData} (C : Bs4 mg) (Fu : Fun K "_law_numbers" "_law_numbers" s_law_numbers f fd) : FnOk P w K mg base CX0 1 f fd ["text"] (spP K R_sums) := by
  refine fn_P Fu sc_law_numbers (fun ds post h => ?_) fun X F ds post hX hfn hH h => ?_
  · obtain ⟨_, rfl, _⟩ := h
    rfl
  · obtain ⟨z, rfl, hs, hl, k⟩ := h
    have bx := hX.bx
    have r0 := hX.nmR (i := 0) (x := "text") rfl (by first | exact Or.inl (by decide +kernel) | exact Or.inr (Or.inl (by decide +kernel))); have w0 := hX.nmW (i := 0) (x := "text") rfl (by decide +kernel); have r1 := hX.nmR (i := 1) (x := "first") rfl (by first | exact Or.inl (by decide +kernel) | exact Or.inr (Or.inl (by decide +kernel))); have w1 := hX.nmW (i := 1) (x := "first") rfl (by decide +kernel); have r2 := hX.nmR (i := 2) (x := "second") rfl (by first | exact Or.inl (by decide +kernel) | exact Or.inr (Or.inl (by decide +kernel))); have w2 := hX.nmW (i := 2) (x := "second") rfl (by decide +kernel); have r3 := hX.nmR (i := 3) (x := "at") rfl (by first | exact Or.inl (by decide +kernel) | exact Or.inr (Or.inl (by decide +kernel))); have w3 := hX.nmW (i := 3) (x := "at") rfl (by decide +kernel); have r4 := hX.nmR (i := 4) (x := "number") rfl (by first | exact Or.inl (by decide +kernel) | exact Or.inr (Or.inl (by decide +kernel))); have w4 := hX.nmW (i := 4) (x := "number") rfl (by decide +kernel); have g_range := hX.glb (x := "range") (by decide +kernel) C.b_range; have g_len := hX.glb (x := "len") (by decide +kernel) C.b_len; have g_ord := hX.glb (x := "ord") (by decide +kernel) C.b_ord; have g_int := hX.glb (x := "int") (by decide +kernel) C.b_int
    have zz := zl_len z
    conv => (arg 3; whnf)
    walk_at "go"
    refine jss_for bx (fun i s => ∃ o3 o4, s = ⟨[some (.d (.str z)), some (.d (.int (T1 ((zl z).take i)))), some (.d (.int (T2 1 ((zl z).take i)))), o3, o4], [], 0⟩) (ji_range1 g_range ?_ (by intro _ _; rfl)) (by intro _; rfl)
    walk_at "go"
    · refine ⟨by omega, ⟨_, _, rfl⟩, ?_, ?_⟩
      · rintro i v s' hi hv ⟨o3, o4, rfl⟩
        obtain rfl : v = _ := hv
        have hi : i < (zl z).length := by omega
        have zi : (0 : Int) + i = i := Int.zero_add _
        rw [zi]
        have hg : (zl z)[i]? = some (zl z)[i] := List.getElem?_eq_getElem hi
        have t1 := take_T1 hg
        have t2 := take_T2 hg
        generalize (zl z)[i] = cp at hg t1 t2
        have ms := sg_iff.mp (hs cp (List.mem_of_getElem? hg))
        walk_at "go"
        refine jx_str (sz_str (by omega)) (L2.atI_nat hg) ?_
        refine ⟨cp, rfl, ?_⟩
        walk_at "go"
        exact ⟨_, _, by rw [t1, t2]; rfl⟩
      · rintro s' ⟨o3, o4, rfl⟩
        have el : (zl z).take ((z.length : Int)).toNat = zl z := by rw [show ((z.length : Int)).toNat = (zl z).length by omega, List.take_length]
        rw [el]
        walk_at "go"
        exact k
    · exact sz_str (by omega)
theorem ok_lsealed {f : Addr} {fd : FuncData} (C : Bs4 mg) (c_law_numbers : CaP P w K mg base "_law_numbers" 1 R_sums) (Fu : Fun K "_law_sealed" "_law_sealed" s_law_sealed f fd) : FnOk P w K mg base CX0 2 f fd ["text"] (spP K R_sealed) := by
  refine fn_P Fu sc_law_sealed (fun ds post h => ?_) fun X F ds post hX hfn hH h => ?_
  · obtain ⟨_, rfl, _⟩ := h
    rfl
  · obtain ⟨z, rfl, hs, hl, k⟩ := h
    have bx := hX.bx
    have r0 := hX.nmR (i := 0) (x := "text") rfl (by first | exact Or.inl (by decide +kernel) | exact Or.inr (Or.inl (by decide +kernel))); have w0 := hX.nmW (i := 0) (x := "text") rfl (by decide +kernel); have r1 := hX.nmR (i := 1) (x := "first") rfl (by first | exact Or.inl (by decide +kernel) | exact Or.inr (Or.inl (by decide +kernel))); have w1 := hX.nmW (i := 1) (x := "first") rfl (by decide +kernel); have r2 := hX.nmR (i := 2) (x := "second") rfl (by first | exact Or.inl (by decide +kernel) | exact Or.inr (Or.inl (by decide +kernel))); have w2 := hX.nmW (i := 2) (x := "second") rfl (by decide +kernel); have d_law_numbers := c_law_numbers.at hX (by decide +kernel); have g_str := hX.glb (x := "str") (by decide +kernel) C.b_str
    conv => (arg 3; whnf)
    walk_at "go"
    refine ap_sums hs hl ?_
    walk_at "go"
    · refine ⟨pl _, _, rfl, ?_⟩
      walk_at "go"
      refine ⟨by decide, ?_⟩
      walk_at "go"
      · refine ⟨pl _, _, rfl, ?_⟩
        walk_at "go"
        refine ⟨by decide, ?_⟩
        walk_at "go"
        · rw [seal_eq]; exact k
        · rw [len_app, len_app, z5_len, z5_len]
          exact sz_str (by show z.length + 2 + 5 + 5 ≤ _; omega)
      · rw [len_app, z5_len]
        exact sz_str (by show z.length + 2 + 5 ≤ _; omega)
    · exact sz_str (by show z.length + 2 ≤ _; omega)
theorem ok_ldiff {f : Addr} {fd : FuncData} (C : Bs4 mg) (Fu : Fun K "_law_differing" "_law_differing" s_law_differing f fd) : FnOk P w K mg base CX0 1 f fd ["one", "other"] (spP K R_diff) := by
  refine fn_P Fu sc_law_differing (fun ds post h => ?_) fun X F ds post hX hfn hH h => ?_
  · obtain ⟨_, _, rfl, _⟩ := h
    rfl
  · obtain ⟨a, b, rfl, hl, hs, k⟩ := h
    have bx := hX.bx
    have r0 := hX.nmR (i := 0) (x := "one") rfl (by first | exact Or.inl (by decide +kernel) | exact Or.inr (Or.inl (by decide +kernel))); have w0 := hX.nmC (i := 0) (x := "one") rfl (by decide +kernel) (hfn _); have r1 := hX.nmR (i := 1) (x := "other") rfl (by first | exact Or.inl (by decide +kernel) | exact Or.inr (Or.inl (by decide +kernel))); have w1 := hX.nmC (i := 1) (x := "other") rfl (by decide +kernel) (hfn _); have g_len := hX.glb (x := "len") (by decide +kernel) C.b_len; have g_range := hX.glb (x := "range") (by decide +kernel) C.b_range
    have za := zl_len a
    have zb := zl_len b
    conv => (arg 3; whnf)
    refine jss_ret (je_len g_len (je_lcPT bx (blk_ok hX (own := [("at", 2)]) (by decide +kernel)) (j := 2) (by decide) (fun Y hY => (hY.is hX).nmW rfl (by decide +kernel)) (ji_range1 g_range ?_ (by intro _ _; rfl)) (by intro _; rfl)) (by intro _ _; rfl))
    walk_at "go"
    · omega
    · refine ⟨by omega, fun i => .int (i : Int), fun i => !decide ((zl a).getD i 0 = (zl b).getD i 0), fun i v acc hi hv Y hY => ?_, ?_⟩
      · obtain rfl : v = _ := hv
        have hi : i < a.length := by omega
        have i1 : i < (zl a).length := by omega
        have i2 : i < (zl b).length := by omega
        have zi : (0 : Int) + i = i := Int.zero_add _
        have g1 : (zl a).getD i 0 = (zl a)[i] := by rw [List.getD_eq_getElem?_getD, List.getElem?_eq_getElem i1]; rfl
        have g2 : (zl b).getD i 0 = (zl b)[i] := by rw [List.getD_eq_getElem?_getD, List.getElem?_eq_getElem i2]; rfl
        dsimp only
        rw [g1, g2]
        have hYX := hY.is hX; have bY := hYX.bx; have r2Y := hYX.nmR (i := 2) (x := "at") rfl (by first | exact Or.inl (by decide +kernel) | exact Or.inr (Or.inl (by decide +kernel)) | exact Or.inr (Or.inr (by decide +kernel))); have r0Y := hYX.nmR (i := 0) (x := "one") rfl (by first | exact Or.inl (by decide +kernel) | exact Or.inr (Or.inl (by decide +kernel)) | exact Or.inr (Or.inr (by decide +kernel))); have r1Y := hYX.nmR (i := 1) (x := "other") rfl (by first | exact Or.inl (by decide +kernel) | exact Or.inr (Or.inl (by decide +kernel)) | exact Or.inr (Or.inr (by decide +kernel)))
        rw [zi]
        refine ⟨?_, fun _ => ?_⟩
        · walk_at "go"
          refine jx_str (sz_str (by omega)) (L2.atI_nat (List.getElem?_eq_getElem i1)) ?_
          walk_at "go"
          refine jx_str (sz_str (by omega)) (L2.atI_nat (List.getElem?_eq_getElem i2)) ?_
          walk_at "go"
          rw [one_inj]
          exact ⟨rfl, rfl⟩
        · walk_at "go"
          exact ⟨rfl, rfl⟩
      · refine jv_len_nd rfl rfl ?_
        rw [List.length_map, List.length_map]
        have e := range_df (zl a) (zl b) hl
        have e2 : ((a.length : Int)).toNat = (zl a).length := by omega
        rw [e2, e]
        exact k
    · exact sz_str (by omega)
end
end
section
open PySem PySem.Spec PyProof.Rows L2 DL SE
local macro_rules | `(tactic| walk_at "je") => `(tactic| first
  | ((with_reducible refine' je_zfill ?_ ?z1 ?z2 ?z3); (case z1 => intro _ _; rfl); (case z2 => rfl); (case z3 => rfl))
  | ((with_reducible refine' je_ord ?zg ?_ ?zs); (case zg => with_reducible assumption); (case zs => intro _ _; rfl))
  | ((with_reducible refine' je_call0 ?zn ?zb ?zk ?_ ?z1); (case zn => with_reducible assumption); (case zb => with_reducible assumption); (case zk => first | exact Nat.le_refl _ | decide); (case z1 => decide)))
theorem cut_le (z : Str) (lo hi : Option Int) : (cutS z lo hi).length ≤ z.length := by
  rw [zl_len, zl_cut, zl_len z, List.length_take, List.length_drop]; omega
abbrev optS : Option (List Nat) → D
  | none => .non
  | some l => .str (S0 l)
def R_wom : RP := fun ds post => ∃ (z : Str) (a b : Int), ds = [.str z, .int a, .int b] ∧ Sg (zl z) ∧ z.length ≤ 90001 ∧ post (.dat (optS (fixO (zl z) a b)))
theorem ap_wom {z : Str} {a b : Int} {post : Rt → Prop} (h : Sg (zl z)) (hl : z.length ≤ 90001) (q : post (.dat (optS (fixO (zl z) a b)))) : R_wom [.str z, .int a, .int b] post := ⟨z, a, b, rfl, h, hl, q⟩
theorem mo_wom : MonoP R_wom := fun ds p q m ⟨a, b, c, d, e, f, h⟩ => ⟨a, b, c, d, e, f, m _ h⟩
section
variable {P : Program} {w : World} {K : PySem.W.Frag} {mg : Str → Option Value} {base : Heap}
theorem ok_wom {f : Addr} {fd : FuncData} (C : Bs4 mg) (c_number_of : CaP P w K mg base "number_of" 2 R_numof) (c_sums_of : CaP P w K mg base "sums_of" 3 R_sums) (c_inverse : CaP P w K mg base "inverse" 1 R_inv) (Fu : Fun K "with_one_mended" "with_one_mended" s_with_one_mended f fd) : FnOk P w K mg base CX0 4 f fd ["text", "first", "second"] (spP K R_wom) := by
  refine fn_P Fu sc_with_one_mended (fun ds post h => ?_) fun X F ds post hX hfn hH h => ?_
  · obtain ⟨_, _, _, rfl, _⟩ := h
    rfl
  · obtain ⟨z, a, b, rfl, hs, hl, k⟩ := h
    have bx := hX.bx
    have r0 := hX.nmR (i := 0) (x := "text") rfl (by first | exact Or.inl (by decide +kernel) | exact Or.inr (Or.inl (by decide +kernel))); have w0 := hX.nmW (i := 0) (x := "text") rfl (by decide +kernel); have r1 := hX.nmR (i := 1) (x := "first") rfl (by first | exact Or.inl (by decide +kernel) | exact Or.inr (Or.inl (by decide +kernel))); have w1 := hX.nmW (i := 1) (x := "first") rfl (by decide +kernel); have r2 := hX.nmR (i := 2) (x := "second") rfl (by first | exact Or.inl (by decide +kernel) | exact Or.inr (Or.inl (by decide +kernel))); have w2 := hX.nmW (i := 2) (x := "second") rfl (by decide +kernel); have r3 := hX.nmR (i := 3) (x := "now") rfl (by first | exact Or.inl (by decide +kernel) | exact Or.inr (Or.inl (by decide +kernel))); have w3 := hX.nmW (i := 3) (x := "now") rfl (by decide +kernel); have r4 := hX.nmR (i := 4) (x := "then") rfl (by first | exact Or.inl (by decide +kernel) | exact Or.inr (Or.inl (by decide +kernel))); have w4 := hX.nmW (i := 4) (x := "then") rfl (by decide +kernel); have r5 := hX.nmR (i := 5) (x := "more") rfl (by first | exact Or.inl (by decide +kernel) | exact Or.inr (Or.inl (by decide +kernel))); have w5 := hX.nmW (i := 5) (x := "more") rfl (by decide +kernel); have r6 := hX.nmR (i := 6) (x := "place") rfl (by first | exact Or.inl (by decide +kernel) | exact Or.inr (Or.inl (by decide +kernel))); have w6 := hX.nmW (i := 6) (x := "place") rfl (by decide +kernel); have r7 := hX.nmR (i := 7) (x := "number") rfl (by first | exact Or.inl (by decide +kernel) | exact Or.inr (Or.inl (by decide +kernel))); have w7 := hX.nmW (i := 7) (x := "number") rfl (by decide +kernel); have r8 := hX.nmR (i := 8) (x := "char") rfl (by first | exact Or.inl (by decide +kernel) | exact Or.inr (Or.inl (by decide +kernel))); have w8 := hX.nmW (i := 8) (x := "char") rfl (by decide +kernel); have d_sums_of := c_sums_of.at hX (by decide +kernel); have d_inverse := c_inverse.at hX (by decide +kernel); have g_len := hX.glb (x := "len") (by decide +kernel) C.b_len; have d_number_of := c_number_of.at hX (by decide +kernel)
    have gM := hX.gcI (x := "MODULUS") (by decide +kernel) C.k_MODULUS
    have gS := hX.gcS (x := "SIGNS") (by decide +kernel) C.k_SIGNS
    have zz := zl_len z
    have zsz : z.length ≤ sizeLine := sz_str (by omega)
    conv => (arg 3; whnf)
    walk_at "go"
    refine ap_sums hs (by omega) ?_
    walk_at "go"
    · rename_i hb
      rw [fixO_none (fun o ⟨i, c, x, _, _, h3, _⟩ => h3 hb)] at k
      exact k
    · rename_i hb
      have g0 : 0 ≤ (a - T1 (zl z) % SE.P) % 99991 ∧ (a - T1 (zl z) % SE.P) % 99991 < 99991 := by omega
      generalize hge : (a - T1 (zl z) % SE.P) % 99991 = ga at hb g0 ⊢
      have hg : (a - T1 (zl z) % SE.P) % SE.P = ga := hge
      refine ap_inv (by omega) g0.2 fun r r0 r1 hr => ?_
      have pi : ∀ {i : Nat}, i < (zl z).length → ((((i : Int) + 1) * ga - b + T2 1 (zl z) % SE.P) % SE.P = 0 ↔ (i : Int) + 1 = (b - T2 1 (zl z) % SE.P) * r % 99991) := fun {i} hi => place_iff hr (by omega)
      have cm : CMul (b - T2 1 (zl z) % SE.P) r ∨ CMulW (b - T2 1 (zl z) % SE.P) r := by
        have : SE.P = 99991 := rfl
        exact .inl (.inr ⟨by omega, by omega⟩)
      have hno : ¬ (1 ≤ (b - T2 1 (zl z) % SE.P) * r % 99991 ∧ (b - T2 1 (zl z) % SE.P) * r % 99991 ≤ z.length) → post (.dat .non) := fun hn => by
        rw [fixO_none (fun o ⟨i, c, x, h1, h2, h3, h4, h5, h6⟩ => by
          have li := (List.getElem?_eq_some_iff.mp h1).1
          rw [hg] at h4
          have := (pi li).mp h4
          omega)] at k
        exact k
      walk_at "go"
      · rename_i h1
        exact hno (by omega)
      · rename_i h1 h2
        have h1 := h1
        obtain ⟨i, hi⟩ : ∃ i : Nat, (b - T2 1 (zl z) % SE.P) * r % 99991 = (i : Int) + 1 := ⟨((b - T2 1 (zl z) % SE.P) * r % 99991 - 1).toNat, by omega⟩
        rw [hi] at hno h2 ⊢
        have li : i < (zl z).length := by omega
        have e1 : (i : Int) + 1 - 1 = i := by omega
        have hx : (zl z)[i]? = some (zl z)[i] := List.getElem?_eq_getElem li
        generalize (zl z)[i] = x at hx
        have mx : x ∈ sgs := hs x (List.mem_of_getElem? hx)
        rw [e1]
        refine jx_str (sz_str (by omega)) (L2.atI_nat hx) ?_
        walk_at "go"
        refine ap_numof ?_
        have en : numOf x = (x : Int) - 31 := if_pos mx
        rw [en]
        walk_at "go"
        have szg : SG.cps.size = sgs.length := Array.length_toList.symm
        have fx : ∀ {c : Nat}, c ∈ sgs → ((c : Int) - x - ga) % SE.P = 0 → fixO (zl z) a b = some ((zl z).set i c) := fun {c} hc hq =>
          fixO_some (by omega) ⟨i, c, x, hx, hc, by rw [hg]; exact hb, by rw [hg]; exact (pi li).mpr hi.symm, by rw [hg]; exact hq, rfl⟩
        refine jss_for bx (fun j s => ∃ o8, (∀ c ∈ sgs.take j, ¬ ((c : Int) - x - ga) % SE.P = 0) ∧ s = ⟨[some (.d (.str z)), some (.d (.int a)), some (.d (.int b)), some (.d (.int (T1 (zl z) % SE.P))), some (.d (.int (T2 1 (zl z) % SE.P))), some (.d (.int ga)), some (.d (.int ((i : Int) + 1))), some (.d (.int (((x : Int) - 31 + ga) % 99991))), o8], [], 0⟩) (ji_str ?_) (by intro _; rfl)
        walk_at "go"
        refine ⟨⟨_, by simp, rfl⟩, ?_, ?_⟩
        · rintro j v s' hj ⟨cp, hcp, rfl⟩ ⟨o8, hno8, rfl⟩
          have hc := zl_get hcp
          have mc : cp ∈ sgs := List.mem_of_getElem? hc
          have en2 : numOf cp = (cp : Int) - 31 := if_pos mc
          have ni := num_iff (x := x) (g := ga) mc
          walk_at "go"
          refine ap_numof ?_
          rw [en2]
          walk_at "go"
          · rename_i hq
            rw [fx mc (ni.mpr hq)] at k
            have ez : ((cutS z none (some ((i : Int) + 1 - 1)) ++ (⟨#[cp]⟩ : Str)) ++ cutS z (some ((i : Int) + 1)) none) = S0 ((zl z).set i cp) := by
              refine zl_inj ?_
              rw [e1, zl_app, zl_app, cut_lo, show (i : Int) + 1 = ((i + 1 : Nat) : Int) from rfl, cut_hi]
              exact set_cut li
            rw [ez]
            exact k
          · rw [len_app]
            have := cut_le z none (some ((i : Int) + 1 - 1))
            have := cut_le z (some ((i : Int) + 1)) none
            exact sz_str (by show _ + 1 + _ ≤ _; omega)
          · have := cut_le z none (some ((i : Int) + 1 - 1))
            exact sz_str (by show _ + 1 ≤ _; omega)
          · rename_i hq
            refine ⟨_, fun c hcm => ?_, rfl⟩
            rw [List.take_add_one, show sgs[j]? = some cp from hc] at hcm
            rcases List.mem_append.mp hcm with hcm | hcm
            · exact hno8 c hcm
            · obtain rfl : c = cp := by simpa using hcm
              exact fun z => hq (ni.mp z)
        · rintro s' ⟨o8, hno8, rfl⟩
          rw [szg, List.take_length] at hno8
          walk_at "go"
          rw [fixO_none (fun o ⟨i', c, x', q1, q2, q3, q4, q5, q6⟩ => by
            have li' := (List.getElem?_eq_some_iff.mp q1).1
            rw [hg] at q4 q5
            have := (pi li').mp q4
            obtain rfl : i' = i := by omega
            rw [hx] at q1
            cases q1
            exact hno8 c q2 q5)] at k
          exact k
      · rename_i h1
        exact hno (by omega)
end
end
section
open PySem PySem.Spec PyProof.Rows L2 DL SE
local macro_rules | `(tactic| walk_at "je") => `(tactic| first
  | ((with_reducible refine' je_zfill ?_ ?z1 ?z2 ?z3); (case z1 => intro _ _; rfl); (case z2 => rfl); (case z3 => rfl))
  | ((with_reducible refine' je_ord ?zg ?_ ?zs); (case zg => with_reducible assumption); (case zs => intro _ _; rfl))
  | ((with_reducible refine' je_call0 ?zn ?zb ?zk ?_ ?z1); (case zn => with_reducible assumption); (case zb => with_reducible assumption); (case zk => first | exact Nat.le_refl _ | decide); (case z1 => decide)))
/-- a statement that raises, whatever stands there -/
def RaB (X : Cx) (F : Fr) : Prop := ∀ (s : S) (P : Po) (p pos pos2 : Pos) (sts : List Stmt), JSs X F (.Raise (some (.Call (.Name "BadText" p) [] [] pos)) none pos2 :: sts) s P
theorem cut_txtS (z : Str) : cutS z none (some (-12)) = S0 (txt (zl z)) := zl_inj (cut_txt z)
structure Btx (K : PySem.W.Frag) (mg : Str → Option Value) (C : Addr) : Prop where
  ex : ExC0 K C
  mgC : mg "BadText" = some (.ref C)
def R_opened : RP := fun ds post => ∃ z : Str, ds = [.str z] ∧ Sg (zl z) ∧ 12 ≤ z.length ∧ z.length ≤ 90012 ∧ sl (txt (zl z)) = zl z ∧ post (.dat (.str (S0 (txt (zl z)))))
theorem mo_opened : MonoP R_opened := fun ds p q m ⟨a, b, c, d, e, f, h⟩ => ⟨a, b, c, d, e, f, m _ h⟩
theorem ap_opened {z : Str} {post : Rt → Prop} (h : Sg (zl z)) (h1 : 12 ≤ z.length) (h2 : z.length ≤ 90012) (h3 : sl (txt (zl z)) = zl z) (q : post (.dat (.str (S0 (txt (zl z)))))) : R_opened [.str z] post := ⟨z, rfl, h, h1, h2, h3, q⟩
def R_openedX (CB : Addr) : RX := fun ds post => ∃ z : Str, ds = [.str z] ∧ Sg (zl z) ∧ z.length ≤ 100012 ∧ ¬ (12 ≤ z.length ∧ z.length ≤ 90012 ∧ sl (txt (zl z)) = zl z) ∧ post ⟨CB, [], []⟩
theorem mo_openedX (CB : Addr) : MonoX (R_openedX CB) := fun ds p q m ⟨a, b, c, d, e, h⟩ => ⟨a, b, c, d, e, m _ h⟩
theorem ap_openedX {CB : Addr} {z : Str} {post : Ex → Prop} (h : Sg (zl z)) (h1 : z.length ≤ 100012) (h2 : ¬ (12 ≤ z.length ∧ z.length ≤ 90012 ∧ sl (txt (zl z)) = zl z)) (q : post ⟨CB, [], []⟩) : R_openedX CB [.str z] post := ⟨z, rfl, h, h1, h2, q⟩
def R_mended : RP := fun ds post => ∃ (z : Str) (o : List Nat), ds = [.str z] ∧ Sg (zl z) ∧ z.length ≤ 90012 ∧ nearO (zl z) = some o ∧ post (.dat (.str (S0 o)))
theorem mo_mended : MonoP R_mended := fun ds p q m ⟨a, b, c, d, e, f, h⟩ => ⟨a, b, c, d, e, f, m _ h⟩
theorem ap_mended {z : Str} {o : List Nat} {post : Rt → Prop} (h : Sg (zl z)) (h1 : z.length ≤ 90012) (h2 : nearO (zl z) = some o) (q : post (.dat (.str (S0 o)))) : R_mended [.str z] post := ⟨z, o, rfl, h, h1, h2, q⟩
def R_mendedX (CB : Addr) : RX := fun ds post => ∃ z : Str, ds = [.str z] ∧ Sg (zl z) ∧ z.length ≤ 90012 ∧ nearO (zl z) = none ∧ post ⟨CB, [], []⟩
theorem mo_mendedX (CB : Addr) : MonoX (R_mendedX CB) := fun ds p q m ⟨a, b, c, d, e, h⟩ => ⟨a, b, c, d, e, m _ h⟩
theorem ap_mendedX {CB : Addr} {z : Str} {post : Ex → Prop} (h : Sg (zl z)) (h1 : z.length ≤ 90012) (h2 : nearO (zl z) = none) (q : post ⟨CB, [], []⟩) : R_mendedX CB [.str z] post := ⟨z, rfl, h, h1, h2, q⟩
section
variable {P : Program} {w : World} {K : PySem.W.Frag} {mg : Str → Option Value} {base : Heap}
theorem opened_body {X : Cx} {F : Fr} (C : Bs4 mg) (hX : XIs X P w K mg base N_opened (defScope s_opened) 4) (hfn : ∀ y, X.fn y = true) (c_is_text : CaP P w K mg base "is_text" 2 R_istext) (c_sealed : CaP P w K mg base "sealed" 4 R_sealed) {z : Str} {nx : S → Prop} {rt : E → S → Prop} (hs : Sg (zl z)) (hl : z.length ≤ 100012)
    (k1 : 12 ≤ z.length → z.length ≤ 90012 → sl (txt (zl z)) = zl z → ∀ s, rt (.d (.str (S0 (txt (zl z))))) s) (k2 : ¬ (12 ≤ z.length ∧ z.length ≤ 90012 ∧ sl (txt (zl z)) = zl z) → RaB X F) : JSs X F (defBody s_opened) (entry N_opened [.d (.str z)] [] 0) { nx := nx, rt := rt } := by
  have bx := hX.bx
  have r0 := hX.nmR (i := 0) (x := "line") rfl (by first | exact Or.inl (by decide +kernel) | exact Or.inr (Or.inl (by decide +kernel))); have w0 := hX.nmW (i := 0) (x := "line") rfl (by decide +kernel); have r1 := hX.nmR (i := 1) (x := "text") rfl (by first | exact Or.inl (by decide +kernel) | exact Or.inr (Or.inl (by decide +kernel))); have w1 := hX.nmW (i := 1) (x := "text") rfl (by decide +kernel); have g_len := hX.glb (x := "len") (by decide +kernel) C.b_len; have d_is_text := c_is_text.at hX (by decide +kernel); have d_sealed := c_sealed.at hX (by decide +kernel)
  have gT := hX.gcI (x := "TAIL") (by decide +kernel) C.k_TAIL
  have zz := zl_len z
  have zsz : z.length ≤ sizeLine := sz_str (by omega)
  conv => (arg 3; whnf)
  walk_at "go"
  · rename_i hb
    exact k2 (by omega) _ _ _ _ _ _
  · rename_i hb
    have h12 : 12 ≤ (zl z).length := by omega
    have tl2 := txt_len h12
    have lt : (S0 (txt (zl z))).length = z.length - 12 := by rw [zl_len]; show (txt (zl z)).length = _; omega
    have st : Sg (zl (S0 (txt (zl z)))) := hs.take _
    rw [cut_txtS]
    refine ap_istext st (by omega) ?_
    walk_at "go"
    · rename_i hb
      exact k2 (by omega) _ _ _ _ _ _
    · refine ap_sealed st (by omega) ?_
      walk_at "go"
      · rename_i hb
        refine k2 (fun ⟨_, _, e⟩ => hb ?_) _ _ _ _ _ _
        exact zl_inj e
      · rename_i h1 h2
        refine k1 (by omega) (by omega) ?_ _
        exact congrArg zl h2
theorem ra_of {X : Cx} {F : Fr} {N : List Str} {sc : Scope} {k : Nat} {CB : Addr} {W : Ex → S → Prop} (T : Btx K mg CB) (hX : XIs X P w K mg base N sc k) (tk : TkX X F W) (hg : sc.names.lookup ("BadText" : Str) = some .globalImplicit) (h : ∀ s, W ⟨CB, [], []⟩ s) : RaB X F := fun s P p pos pos2 sts =>
  jss_raise0 tk hX.bx (by rw [hX.eK]; exact T.ex) (hX.gl hg) (by rw [hX.eM]; exact T.mgC) (h s)
theorem ok_opened {f : Addr} {fd : FuncData} (C : Bs4 mg) (c_is_text : CaP P w K mg base "is_text" 2 R_istext) (c_sealed : CaP P w K mg base "sealed" 4 R_sealed) (Fu : Fun K "opened" "opened" s_opened f fd) : FnOk P w K mg base CX0 5 f fd ["line"] (spP K R_opened) := by
  refine fn_P Fu sc_opened (fun ds post h => ?_) fun X F ds post hX hfn hH h => ?_
  · obtain ⟨_, rfl, _⟩ := h
    rfl
  · obtain ⟨z, rfl, hs, h1, h2, h3, k⟩ := h
    exact opened_body C hX hfn c_is_text c_sealed hs (by omega) (fun _ _ _ _ => k) fun hn => absurd ⟨h1, h2, h3⟩ hn
theorem ok_openedX {f CB : Addr} {fd : FuncData} (C : Bs4 mg) (T : Btx K mg CB) (c_is_text : CaP P w K mg base "is_text" 2 R_istext) (c_sealed : CaP P w K mg base "sealed" 4 R_sealed) (Fu : Fun K "opened" "opened" s_opened f fd) : FnOk P w K mg base (L2.CX P w) 5 f fd ["line"] (spX K (R_openedX CB)) := by
  refine fn_X Fu sc_opened (fun ds post h => ?_) fun X F ds post hX hfn hH tk h => ?_
  · obtain ⟨_, rfl, _⟩ := h
    rfl
  · obtain ⟨z, rfl, hs, h1, h2, k⟩ := h
    exact opened_body C hX hfn c_is_text c_sealed hs h1 (fun a b c _ => h2 ⟨a, b, c⟩) fun _ => ra_of T hX tk (by decide +kernel) fun _ => k
theorem mended_body {X : Cx} {F : Fr} (C : Bs4 mg) (hX : XIs X P w K mg base N_mended (defScope s_mended) 4) (hfn : ∀ y, X.fn y = true) (c_is_text : CaP P w K mg base "is_text" 2 R_istext) (c_sealed : CaP P w K mg base "sealed" 4 R_sealed) (c_differing : CaP P w K mg base "differing" 1 R_diff) (c_read_sum : CaP P w K mg base "read_sum" 1 R_rs) (c_with_one_mended : CaP P w K mg base "with_one_mended" 4 R_wom)
    {z : Str} {nx : S → Prop} {rt : E → S → Prop} (hs : Sg (zl z)) (hl : z.length ≤ 90012)
    (k1 : ∀ o s, nearO (zl z) = some o → rt (.d (.str (S0 o))) s) (k2 : nearO (zl z) = none → RaB X F) : JSs X F (defBody s_mended) (entry N_mended [.d (.str z)] [] 0) { nx := nx, rt := rt } := by
  have bx := hX.bx
  have r0 := hX.nmR (i := 0) (x := "line") rfl (by first | exact Or.inl (by decide +kernel) | exact Or.inr (Or.inl (by decide +kernel))); have w0 := hX.nmW (i := 0) (x := "line") rfl (by decide +kernel); have r1 := hX.nmR (i := 1) (x := "text") rfl (by first | exact Or.inl (by decide +kernel) | exact Or.inr (Or.inl (by decide +kernel))); have w1 := hX.nmW (i := 1) (x := "text") rfl (by decide +kernel); have r2 := hX.nmR (i := 2) (x := "first") rfl (by first | exact Or.inl (by decide +kernel) | exact Or.inr (Or.inl (by decide +kernel))); have w2 := hX.nmW (i := 2) (x := "first") rfl (by decide +kernel); have r3 := hX.nmR (i := 3) (x := "second") rfl (by first | exact Or.inl (by decide +kernel) | exact Or.inr (Or.inl (by decide +kernel))); have w3 := hX.nmW (i := 3) (x := "second") rfl (by decide +kernel); have r4 := hX.nmR (i := 4) (x := "found") rfl (by first | exact Or.inl (by decide +kernel) | exact Or.inr (Or.inl (by decide +kernel))); have w4 := hX.nmW (i := 4) (x := "found") rfl (by decide +kernel); have g_len := hX.glb (x := "len") (by decide +kernel) C.b_len; have d_is_text := c_is_text.at hX (by decide +kernel); have d_differing := c_differing.at hX (by decide +kernel); have d_sealed := c_sealed.at hX (by decide +kernel); have d_read_sum := c_read_sum.at hX (by decide +kernel); have d_with_one_mended := c_with_one_mended.at hX (by decide +kernel)
  have gT := hX.gcI (x := "TAIL") (by decide +kernel) C.k_TAIL
  have gL := hX.gcI (x := "LENGTH_MOST") (by decide +kernel) C.k_LENGTH_MOST
  have zz := zl_len z
  have zsz : z.length ≤ sizeLine := sz_str (by omega)
  have cl : (cutS z none (some (-12))).length = z.length - 12 := by
    rw [cut_txtS, zl_len]
    show (txt (zl z)).length = _
    unfold txt
    rw [List.length_take]
    omega
  have csz : (cutS z none (some (-12))).length ≤ sizeLine := sz_str (by omega)
  conv => (arg 3; whnf)
  walk_at "go"
  · rename_i hb
    exact k2 (near_lt (by omega)) _ _ _ _ _ _
  · rename_i hb _
    have h12 : ¬ (zl z).length < 12 := by omega
    have tl2 := txt_len (l := zl z) (by omega)
    have st : Sg (zl (S0 (txt (zl z)))) := hs.take _
    rw [cut_txtS] at cl ⊢
    refine ap_istext st (by omega) ?_
    rw [decide_eq_true (show (S0 (txt (zl z))).length ≤ 90000 by omega)]
    walk_at "go"
    refine ap_sealed st (by omega) ?_
    walk_at "go"
    refine ap_diff (by show (sl (txt (zl z))).length = _; rw [sl_len]; omega) (by rw [zl_len]; show (sl (txt (zl z))).length ≤ _; rw [sl_len]; omega) ?_
    walk_at "go"
    · rename_i hd
      refine k1 _ _ (near_a h12 ?_)
      show df (sl (txt (zl z))) (zl z) ≤ 1
      have hd : ((df (sl (txt (zl z))) (zl z) : Nat) : Int) ≤ 1 := hd
      omega
    · rename_i hd
      have hd : ¬ ((df (sl (txt (zl z))) (zl z) : Nat) : Int) ≤ 1 := hd
      have hb2 : ¬ df (sl (txt (zl z))) (zl z) ≤ 1 := by omega
      have nb := near_b h12 hb2
      have l10 : (d10 (zl z)).length = 10 := by unfold d10; rw [List.length_drop]; omega
      have ca := cut_105 z (by omega)
      have cb := cut_5 z (by omega)
      have ra : ¬ NumText.AllDigits (d10 (zl z)) → RaB X F := fun hn => k2 (by rw [nb]; exact fixN_d hn)
      refine ap_rs (by rw [ca, List.length_take]; omega) (fun a1 => ?_) (fun a1 => ?_)
      · rw [ca] at a1 ⊢
        walk_at "go"
        refine ap_rs (by rw [cb, List.length_drop]; omega) (fun a2 => ?_) (fun a2 => ?_)
        · rw [cb] at a2 ⊢
          have ad := alld_iff.mpr ⟨a1, a2⟩
          walk_at "go"
          refine jss_if ?_
          walk_at "go"
          refine ap_wom st (by omega) ?_
          show RtX _ _ _ (Rt.dat (optS (fixO (txt (zl z)) (v1 (zl z)) (v2 (zl z)))))
          cases e : fixO (txt (zl z)) (v1 (zl z)) (v2 (zl z)) with
          | none =>
            walk_at "go"
            exact k2 (by rw [nb]; exact fixN_0 e) _ _ _ _ _ _
          | some o =>
            have hF := fixO_is e
            obtain ⟨so, lo⟩ := hF.sg (hs.take _)
            have sto : Sg (zl (S0 o)) := so
            have lo2 : (S0 o).length = (S0 (txt (zl z))).length := by rw [zl_len, zl_len]; exact lo
            have n0 := df_not0 hF h12
            walk_at "go"
            refine ap_istext sto (by omega) ?_
            rw [decide_eq_true (show (S0 o).length ≤ 90000 by omega)]
            walk_at "go"
            refine ap_sealed sto (by omega) ?_
            walk_at "go"
            refine ap_diff (by show (sl o).length = _; rw [sl_len]; omega) (by rw [zl_len]; show (sl o).length ≤ _; rw [sl_len]; omega) ?_
            walk_at "go"
            · rename_i hq
              have hq : ((df (sl o) (zl z) : Nat) : Int) = 1 := hq
              exact k1 _ _ (by rw [nb]; exact fixN_1 ad e (by omega))
            · rename_i hq
              have hq : ¬ ((df (sl o) (zl z) : Nat) : Int) = 1 := hq
              exact k2 (by rw [nb]; exact fixN_2 e (by omega)) _ _ _ _ _ _
        · walk_at "go"
          refine jss_if ?_
          walk_at "go"
          rw [cb] at a2
          exact ra (fun h => a2 (alld_iff.mp h).2) _ _ _ _ _ _
      · walk_at "go"
        rw [ca] at a1
        refine ap_rs (by rw [cb, List.length_drop]; omega) (fun a2 => ?_) (fun a2 => ?_)
        · walk_at "go"
          refine jss_if ?_
          walk_at "go"
          exact ra (fun h => a1 (alld_iff.mp h).1) _ _ _ _ _ _
        · walk_at "go"
          refine jss_if ?_
          walk_at "go"
          exact ra (fun h => a1 (alld_iff.mp h).1) _ _ _ _ _ _
theorem ok_mended {f : Addr} {fd : FuncData} (C : Bs4 mg) (c_is_text : CaP P w K mg base "is_text" 2 R_istext) (c_sealed : CaP P w K mg base "sealed" 4 R_sealed) (c_differing : CaP P w K mg base "differing" 1 R_diff) (c_read_sum : CaP P w K mg base "read_sum" 1 R_rs) (c_with_one_mended : CaP P w K mg base "with_one_mended" 4 R_wom) (Fu : Fun K "mended" "mended" s_mended f fd) : FnOk P w K mg base CX0 5 f fd ["line"] (spP K R_mended) := by
  refine fn_P Fu sc_mended (fun ds post h => ?_) fun X F ds post hX hfn hH h => ?_
  · obtain ⟨_, _, rfl, _⟩ := h
    rfl
  · obtain ⟨z, o, rfl, hs, h1, h2, k⟩ := h
    exact mended_body C hX hfn c_is_text c_sealed c_differing c_read_sum c_with_one_mended hs h1 (fun o' _ ho => by rw [h2] at ho; cases ho; exact k) fun hn => by rw [h2] at hn; cases hn
theorem ok_mendedX {f CB : Addr} {fd : FuncData} (C : Bs4 mg) (T : Btx K mg CB) (c_is_text : CaP P w K mg base "is_text" 2 R_istext) (c_sealed : CaP P w K mg base "sealed" 4 R_sealed) (c_differing : CaP P w K mg base "differing" 1 R_diff) (c_read_sum : CaP P w K mg base "read_sum" 1 R_rs) (c_with_one_mended : CaP P w K mg base "with_one_mended" 4 R_wom) (Fu : Fun K "mended" "mended" s_mended f fd) : FnOk P w K mg base (L2.CX P w) 5 f fd ["line"] (spX K (R_mendedX CB)) := by
  refine fn_X Fu sc_mended (fun ds post h => ?_) fun X F ds post hX hfn hH tk h => ?_
  · obtain ⟨_, rfl, _⟩ := h
    rfl
  · obtain ⟨z, rfl, hs, h1, h2, k⟩ := h
    exact mended_body C hX hfn c_is_text c_sealed c_differing c_read_sum c_with_one_mended hs h1 (fun o' _ ho => by rw [h2] at ho; cases ho) fun _ => ra_of T hX tk (by decide +kernel) fun _ => k
end
end
section
open PySem PySem.Spec PyProof.Rows L2 DL SE
local macro_rules | `(tactic| walk_at "je") => `(tactic| first
  | ((with_reducible refine' je_zfill ?_ ?z1 ?z2 ?z3); (case z1 => intro _ _; rfl); (case z2 => rfl); (case z3 => rfl))
  | ((with_reducible refine' je_ord ?zg ?_ ?zs); (case zg => with_reducible assumption); (case zs => intro _ _; rfl))
  | ((with_reducible refine' je_call0 ?zn ?zb ?zk ?_ ?z1); (case zn => with_reducible assumption); (case zb => with_reducible assumption); (case zk => first | exact Nat.le_refl _ | decide); (case z1 => decide)))
abbrev lsS (L : List (List Nat)) : List D := L.map fun o => .str (S0 o)
def R_lws : RP := fun ds post => ∃ (z : Str) (a b : Int), ds = [.str z, .int a, .int b] ∧ Sg (zl z) ∧ z.length ≤ 90001 ∧ post (.new .lst (lsS (fixO (zl z) a b).toList))
theorem ap_lws {z : Str} {a b : Int} {post : Rt → Prop} (h : Sg (zl z)) (hl : z.length ≤ 90001) (q : post (.new .lst (lsS (fixO (zl z) a b).toList))) : R_lws [.str z, .int a, .int b] post := ⟨z, a, b, rfl, h, hl, q⟩
theorem mo_lws : MonoP R_lws := fun ds p q m ⟨a, b, c, d, e, f, h⟩ => ⟨a, b, c, d, e, f, m _ h⟩
def lst9 (z : Str) (a b : Int) (L : List (List Nat)) (o6 o7 o8 : Option E) : S := ⟨[some (.d (.str z)), some (.d (.int a)), some (.d (.int b)), some (.d (.int (T1 (zl z) % SE.P))), some (.d (.int (T2 1 (zl z) % SE.P))), some (.r 0), o6, o7, o8], [.nd .lst ((lsS L).map .d)], 0⟩
section
variable {P : Program} {w : World} {K : PySem.W.Frag} {mg : Str → Option Value} {base : Heap}
theorem ok_lws {f : Addr} {fd : FuncData} (C : Bs4 mg) (c_law_numbers : CaP P w K mg base "_law_numbers" 1 R_sums) (c_law_signs : CaP P w K mg base "_law_signs" 1 R_sg) (Fu : Fun K "_law_with_sums" "_law_with_sums" s_law_with_sums f fd) : FnOk P w K mg base CX0 2 f fd ["text", "first", "second"] (spP K R_lws) := by
  refine fn_P Fu sc_law_with_sums (fun ds post h => ?_) fun X F ds post hX hfn hH h => ?_
  · obtain ⟨_, _, _, rfl, _⟩ := h
    rfl
  · obtain ⟨z, a, b, rfl, hs, hl, k⟩ := h
    have bx := hX.bx
    have r0 := hX.nmR (i := 0) (x := "text") rfl (by first | exact Or.inl (by decide +kernel) | exact Or.inr (Or.inl (by decide +kernel))); have w0 := hX.nmW (i := 0) (x := "text") rfl (by decide +kernel); have r1 := hX.nmR (i := 1) (x := "first") rfl (by first | exact Or.inl (by decide +kernel) | exact Or.inr (Or.inl (by decide +kernel))); have w1 := hX.nmW (i := 1) (x := "first") rfl (by decide +kernel); have r2 := hX.nmR (i := 2) (x := "second") rfl (by first | exact Or.inl (by decide +kernel) | exact Or.inr (Or.inl (by decide +kernel))); have w2 := hX.nmW (i := 2) (x := "second") rfl (by decide +kernel); have r3 := hX.nmR (i := 3) (x := "now") rfl (by first | exact Or.inl (by decide +kernel) | exact Or.inr (Or.inl (by decide +kernel))); have w3 := hX.nmW (i := 3) (x := "now") rfl (by decide +kernel); have r4 := hX.nmR (i := 4) (x := "then") rfl (by first | exact Or.inl (by decide +kernel) | exact Or.inr (Or.inl (by decide +kernel))); have w4 := hX.nmW (i := 4) (x := "then") rfl (by decide +kernel); have r5 := hX.nmR (i := 5) (x := "found") rfl (by first | exact Or.inl (by decide +kernel) | exact Or.inr (Or.inl (by decide +kernel))); have w5 := hX.nmW (i := 5) (x := "found") rfl (by decide +kernel); have r6 := hX.nmR (i := 6) (x := "at") rfl (by first | exact Or.inl (by decide +kernel) | exact Or.inr (Or.inl (by decide +kernel))); have w6 := hX.nmW (i := 6) (x := "at") rfl (by decide +kernel); have r7 := hX.nmR (i := 7) (x := "gap") rfl (by first | exact Or.inl (by decide +kernel) | exact Or.inr (Or.inl (by decide +kernel))); have w7 := hX.nmW (i := 7) (x := "gap") rfl (by decide +kernel); have r8 := hX.nmR (i := 8) (x := "char") rfl (by first | exact Or.inl (by decide +kernel) | exact Or.inr (Or.inl (by decide +kernel))); have w8 := hX.nmW (i := 8) (x := "char") rfl (by decide +kernel); have d_law_numbers := c_law_numbers.at hX (by decide +kernel); have g_range := hX.glb (x := "range") (by decide +kernel) C.b_range; have g_len := hX.glb (x := "len") (by decide +kernel) C.b_len; have g_int := hX.glb (x := "int") (by decide +kernel) C.b_int; have d_law_signs := c_law_signs.at hX (by decide +kernel); have g_ord := hX.glb (x := "ord") (by decide +kernel) C.b_ord
    have zz := zl_len z
    have zsz : z.length ≤ sizeLine := sz_str (by omega)
    conv => (arg 3; whnf)
    walk_at "go"
    refine ap_sums hs (by omega) ?_
    iterate 8 walk_at "st"
    refine jss_set w5 (je_own (jn_lst ?_)) (by rfl)
    walk_at "go"
    refine ⟨rfl, ?_⟩
    refine jss_for bx (fun i s => ∃ L o6 o7 o8, IsL L (fun o => ∃ j, j < i ∧ FixI (zl z) a b j o) ∧ s = lst9 z a b L o6 o7 o8) (ji_range1 g_range ?_ (by intro _ _; rfl)) (by intro _; rfl)
    walk_at "go"
    refine ⟨by omega, ⟨[], none, none, none, .nil fun o ⟨j, hj, _⟩ => absurd hj (Nat.not_lt_zero j), rfl⟩, ?_, ?_⟩
    · rintro i v s' hi hv ⟨L, o6, o7, o8, hL, rfl⟩
      obtain rfl : v = _ := hv
      have hi : i < (zl z).length := by omega
      have zi : (0 : Int) + i = i := Int.zero_add _
      rw [zi]
      have hx : (zl z)[i]? = some (zl z)[i] := List.getElem?_eq_getElem hi
      generalize (zl z)[i] = x at hx
      unfold lst9
      refine jg_name w6 ?_
      walk_at "go"
      · rename_i h1 h2
        have g1 : (a - T1 (zl z) % SE.P) % SE.P ≠ 0 := h1
        have g2 : (((i : Int) + 1) * ((a - T1 (zl z) % SE.P) % SE.P) - b + T2 1 (zl z) % SE.P) % SE.P = 0 := h2
        have L0 : L = [] := hL.none fun o ⟨j, hj, c, x', q1, q2, q3, q4, q5, q6⟩ => by
          have := fix_at (by omega) (by omega) hi (by rw [gap_mod]; exact g1) q4 g2
          omega
        subst L0
        refine jss_for bx (fun kk s => ∃ L o8, IsL L (fun o => ∃ c, c ∈ sgs.take kk ∧ ((c : Int) - x - (a - T1 (zl z) % SE.P) % SE.P) % SE.P = 0 ∧ o = (zl z).set i c) ∧ s = lst9 z a b L (some (.d (.int i))) (some (.d (.int ((a - T1 (zl z) % SE.P) % 99991)))) o8) (ji_str ?_) (by intro _; rfl)
        walk_at "go"
        refine ap_sg ?_
        walk_at "go"
        refine ⟨⟨[], _, .nil (fun o ⟨c, hc, _⟩ => by simp at hc), rfl⟩, ?_, ?_⟩
        · rintro kk v s' hk ⟨cp, hcp, rfl⟩ ⟨L, o8, hL, rfl⟩
          have hc := zl_get hcp
          have mc : cp ∈ sgs := List.mem_of_getElem? hc
          have ll := hL.len
          unfold lst9
          refine jg_name w8 ?_
          walk_at "go"
          refine jx_str zsz (L2.atI_nat hx) ?_
          refine ⟨x, rfl, ?_⟩
          walk_at "go"
          · rename_i hq
            have hq : ((cp : Int) - x - (a - T1 (zl z) % SE.P) % SE.P) % SE.P = 0 := hq
            have L0 : L = [] := hL.none fun o ⟨c, q1, q2, q3⟩ => by
              obtain rfl := sg_one (List.mem_of_mem_take q1) mc q2 hq
              exact notin_take sgs_nd hc q1
            subst L0
            refine je_append ?_
            walk_at "go"
            refine ⟨0, _, rfl, rfl, ?_⟩
            walk_at "go"
            · refine ⟨by rw [sizeLine_eq]; decide, jss_nil (P := Po.mk _ _ _ _) ?_⟩
              refine ⟨[(zl z).set i cp], some (.d (.str ⟨#[cp]⟩)), .inl ⟨_, ⟨cp, ?_, hq, rfl⟩, rfl⟩, ?_⟩
              · rw [List.take_add_one, show sgs[kk]? = some cp from hc]; simp
              · have ez : ((cutS z none (some (i : Int)) ++ (⟨#[cp]⟩ : Str)) ++ cutS z (some ((i : Int) + 1)) none) = S0 ((zl z).set i cp) := by
                  refine zl_inj ?_
                  rw [zl_app, zl_app, cut_lo, show (i : Int) + 1 = ((i + 1 : Nat) : Int) from rfl, cut_hi]
                  exact set_cut hi
                rw [ez]
                rfl
            · rw [len_app]
              have := cut_le z none (some (i : Int))
              have := cut_le z (some ((i : Int) + 1)) none
              exact sz_str (by show _ + 1 + _ ≤ _; omega)
            · have := cut_le z none (some (i : Int))
              exact sz_str (by show _ + 1 ≤ _; omega)
          · rename_i hq
            have hq : ¬ ((cp : Int) - x - (a - T1 (zl z) % SE.P) % SE.P) % SE.P = 0 := hq
            refine ⟨L, _, hL.congr fun o => ⟨fun ⟨c, q1, q2⟩ => ⟨c, by rw [List.take_add_one]; exact List.mem_append_left _ q1, q2⟩, fun ⟨c, q1, q2⟩ => ⟨c, ?_, q2⟩⟩, rfl⟩
            rw [List.take_add_one, show sgs[kk]? = some cp from hc] at q1
            rcases List.mem_append.mp q1 with q1 | q1
            · exact q1
            · obtain rfl : c = cp := by simpa using q1
              exact absurd q2.1 hq
        · rintro s' ⟨L, o8, hL, rfl⟩
          refine jss_nil (P := Po.mk _ _ _ _) ?_
          refine ⟨L, _, _, _, hL.congr fun o => ?_, rfl⟩
          rw [show SG.cps.size = sgs.length from Array.length_toList.symm, List.take_length]
          constructor
          · rintro ⟨c, q1, q2, q3⟩
            exact ⟨i, by omega, c, x, hx, q1, g1, g2, q2, q3⟩
          · rintro ⟨j, hj, c, x', q1, q2, q3, q4, q5, q6⟩
            have lj := (List.getElem?_eq_some_iff.mp q1).1
            obtain rfl := fix_at (by omega) lj hi (by rw [gap_mod]; exact g1) q4 g2
            rw [hx] at q1
            cases q1
            exact ⟨c, q2, q5, q6⟩
      · rename_i h1 h2
        refine ⟨L, _, _, _, hL.congr fun o => ⟨fun ⟨j, q1, q2⟩ => ⟨j, by omega, q2⟩, fun ⟨j, q1, q2⟩ => ⟨j, ?_, q2⟩⟩, rfl⟩
        refine Classical.byContradiction fun z => ?_
        obtain rfl : j = i := by omega
        obtain ⟨c, x', r1, r2, r3, r4, r5, r6⟩ := q2
        exact h2 r4
      · rename_i h1
        refine ⟨L, _, _, _, hL.congr fun o => ⟨fun ⟨j, q1, q2⟩ => ⟨j, by omega, q2⟩, fun ⟨j, q1, q2⟩ => ⟨j, ?_, q2⟩⟩, rfl⟩
        obtain ⟨c, x', r1, r2, r3, r4, r5, r6⟩ := q2
        exact absurd h1 r3
    · rintro s' ⟨L, o6, o7, o8, hL, rfl⟩
      rw [show ((z.length : Int)).toNat = (zl z).length by omega] at hL
      have e := isl_fix (by omega) hL
      subst e
      unfold lst9
      walk_at "go"
      exact ⟨.lst, _, _, rfl, dsOf_map _, Nat.zero_le _, k⟩
end
end
section
open PySem PySem.Spec PyProof.Rows L2 DL SE
local macro_rules | `(tactic| walk_at "je") => `(tactic| first
  | ((with_reducible refine' je_zfill ?_ ?z1 ?z2 ?z3); (case z1 => intro _ _; rfl); (case z2 => rfl); (case z3 => rfl))
  | ((with_reducible refine' je_ord ?zg ?_ ?zs); (case zg => with_reducible assumption); (case zs => intro _ _; rfl))
  | ((with_reducible refine' je_call0 ?zn ?zb ?zk ?_ ?z1); (case zn => with_reducible assumption); (case zb => with_reducible assumption); (case zk => first | exact Nat.le_refl _ | decide); (case z1 => decide)))
def R_near : RP := fun ds post => ∃ z : Str, ds = [.str z] ∧ Sg (zl z) ∧ z.length ≤ 90013 ∧ post (.new .lst (lsS (nearO (zl z)).toList))
theorem ap_near {z : Str} {post : Rt → Prop} (h : Sg (zl z)) (hl : z.length ≤ 90013) (q : post (.new .lst (lsS (nearO (zl z)).toList))) : R_near [.str z] post := ⟨z, rfl, h, hl, q⟩
theorem mo_near : MonoP R_near := fun ds p q m ⟨a, b, c, d, h⟩ => ⟨a, b, c, d, m _ h⟩
def nst (z : Str) (L : List (List Nat)) (o3 o4 o5 : Option E) : S := ⟨[some (.d (.str z)), some (.d (.str (S0 (txt (zl z))))), some (.r 0), o3, o4, o5], [.nd .lst ((lsS L).map .d)], 0⟩
theorem alld_all {l : List Nat} : ((List.range l.length).map fun i => decide (48 ≤ l.getD i 0 ∧ l.getD i 0 ≤ 57)).all id = true ↔ NumText.AllDigits l := by
  rw [List.all_map, List.all_eq_true]
  constructor
  · intro h c hc
    obtain ⟨i, hi, rfl⟩ := List.getElem_of_mem hc
    have := h i (List.mem_range.mpr hi)
    simp only [Function.comp, id, decide_eq_true_eq, List.getD_eq_getElem?_getD, List.getElem?_eq_getElem hi, Option.getD_some] at this
    exact this
  · intro h i hi
    have hi := List.mem_range.mp hi
    simp only [Function.comp, id, decide_eq_true_eq, List.getD_eq_getElem?_getD, List.getElem?_eq_getElem hi, Option.getD_some]
    exact h _ (List.getElem_mem hi)
section
variable {P : Program} {w : World} {K : PySem.W.Frag} {mg : Str → Option Value} {base : Heap}
theorem ok_near {f : Addr} {fd : FuncData} (C : Bs4 mg) (c_law_differing : CaP P w K mg base "_law_differing" 1 R_diff) (c_law_sealed : CaP P w K mg base "_law_sealed" 2 R_sealed) (c_law_with_sums : CaP P w K mg base "_law_with_sums" 2 R_lws) (Fu : Fun K "_law_near" "_law_near" s_law_near f fd) : FnOk P w K mg base CX0 3 f fd ["line"] (spP K R_near) := by
  refine fn_P Fu sc_law_near (fun ds post h => ?_) fun X F ds post hX hfn hH h => ?_
  · obtain ⟨_, rfl, _⟩ := h
    rfl
  · obtain ⟨z, rfl, hs, hl, k⟩ := h
    have bx := hX.bx
    have r0 := hX.nmR (i := 0) (x := "line") rfl (by first | exact Or.inl (by decide +kernel) | exact Or.inr (Or.inl (by decide +kernel))); have w0 := hX.nmW (i := 0) (x := "line") rfl (by decide +kernel); have r1 := hX.nmR (i := 1) (x := "text") rfl (by first | exact Or.inl (by decide +kernel) | exact Or.inr (Or.inl (by decide +kernel))); have w1 := hX.nmW (i := 1) (x := "text") rfl (by decide +kernel); have r2 := hX.nmR (i := 2) (x := "found") rfl (by first | exact Or.inl (by decide +kernel) | exact Or.inr (Or.inl (by decide +kernel))); have w2 := hX.nmW (i := 2) (x := "found") rfl (by decide +kernel); have r3 := hX.nmR (i := 3) (x := "digits") rfl (by first | exact Or.inl (by decide +kernel) | exact Or.inr (Or.inl (by decide +kernel))); have w3 := hX.nmW (i := 3) (x := "digits") rfl (by decide +kernel); have r4 := hX.nmR (i := 4) (x := "other") rfl (by first | exact Or.inl (by decide +kernel) | exact Or.inr (Or.inl (by decide +kernel))); have w4 := hX.nmW (i := 4) (x := "other") rfl (by decide +kernel); have g_len := hX.glb (x := "len") (by decide +kernel) C.b_len; have d_law_differing := c_law_differing.at hX (by decide +kernel); have d_law_sealed := c_law_sealed.at hX (by decide +kernel); have g_all := hX.glb (x := "all") (by decide +kernel) C.b_all; have d_law_with_sums := c_law_with_sums.at hX (by decide +kernel); have g_int := hX.glb (x := "int") (by decide +kernel) C.b_int
    have zz := zl_len z
    have zsz : z.length ≤ sizeLine := sz_str (by omega)
    have cl : (cutS z none (some (-12))).length = z.length - 12 := by
      rw [cut_txtS, zl_len]
      show (txt (zl z)).length = _
      unfold txt
      rw [List.length_take]
      omega
    conv => (arg 3; whnf)
    iterate 12 walk_at "st"
    rw [cut_txtS] at cl ⊢
    iterate 9 walk_at "st"
    · rename_i hb
      have e := near_lt (l := zl z) (by omega)
      refine je_own (jn_lst ?_)
      walk_at "go"
      refine ⟨rfl, .lst, _, _, rfl, rfl, Nat.zero_le _, ?_⟩
      rw [e] at k
      exact k
    rename_i hb
    have h12 : ¬ (zl z).length < 12 := by omega
    have tl2 := txt_len (l := zl z) (by omega)
    have st : Sg (zl (S0 (txt (zl z)))) := hs.take _
    have l10 : (d10 (zl z)).length = 10 := by unfold d10; rw [List.length_drop]; omega
    refine jss_set w2 (je_own (jn_lst ?_)) (by rfl)
    walk_at "st"
    refine ⟨by rw [sizeLine_eq]; decide, rfl, ?_⟩
    refine jss_ifM (fun s1 => ∃ L : List (List Nat), ((df (sl (txt (zl z))) (zl z) ≤ 1 ∧ L = [txt (zl z)]) ∨ (¬ df (sl (txt (zl z))) (zl z) ≤ 1 ∧ L = [])) ∧ s1 = nst z L none none none) ?_ ?_
    · walk_at "go"
      refine ap_sealed st (by omega) ?_
      walk_at "go"
      refine ap_diff (by show (sl (txt (zl z))).length = _; rw [sl_len]; omega) (by rw [zl_len]; show (sl (txt (zl z))).length ≤ _; rw [sl_len]; omega) ?_
      walk_at "go"
      · rename_i hd
        have hd : ((df (sl (txt (zl z))) (zl z) : Nat) : Int) ≤ 1 := hd
        refine je_append ?_
        walk_at "go"
        refine ⟨0, _, rfl, rfl, ?_⟩
        walk_at "go"
        refine ⟨by rw [sizeLine_eq]; decide, ?_⟩
        walk_at "go"
        exact ⟨[txt (zl z)], .inl ⟨by omega, rfl⟩, rfl⟩
      · rename_i hd
        have hd : ¬ ((df (sl (txt (zl z))) (zl z) : Nat) : Int) ≤ 1 := hd
        exact ⟨[], .inr ⟨by omega, rfl⟩, rfl⟩
    rintro s1 ⟨L, hL, rfl⟩
    unfold nst
    walk_at "go"
    have zd : zl (cutS z (some (-10)) none) = d10 (zl z) := cut_10 z
    have ld : (cutS z (some (-10)) none).cps.size = 10 := by rw [← Array.length_toList]; show (zl _).length = _; rw [zd, l10]
    have hLl : L.length ≤ 1 := by rcases hL with ⟨_, rfl⟩ | ⟨_, rfl⟩ <;> simp
    refine jss_ifM (fun s1 => ∃ o3 o4 o5, s1 = nst z (nearO (zl z)).toList o3 o4 o5) ?_ ?_
    · refine jt_val (je_all bx g_all (je_lcP bx (blk_ok hX (own := [("char", 5)]) (by decide +kernel)) (j := 5) (by decide) (fun Y hY => (hY.is hX).nmW rfl (by decide +kernel)) (ji_str ?_) (by intro _; rfl)) (by intro _ _; rfl)) (by intro _; rfl)
      walk_at "go"
      refine ⟨rfl, by omega, fun i => .bl (decide (48 ≤ (d10 (zl z)).getD i 0 ∧ (d10 (zl z)).getD i 0 ≤ 57)), ?_, ?_⟩
      · rintro i v acc hi ⟨cp, hcp, rfl⟩ Y hY
        have hc : (d10 (zl z))[i]? = some cp := by rw [← zd]; exact zl_get hcp
        have eg : (d10 (zl z)).getD i 0 = cp := by rw [List.getD_eq_getElem?_getD, hc]; rfl
        have hYX := hY.is hX; have bY := hYX.bx; have r5Y := hYX.nmR (i := 5) (x := "char") rfl (by first | exact Or.inl (by decide +kernel) | exact Or.inr (Or.inl (by decide +kernel)) | exact Or.inr (Or.inr (by decide +kernel)))
        walk_at "go"
        refine jr_inS ?_
        dsimp only
        rw [eg, show decide (cp ∈ (Str.ofString "0123456789").cps.toList) = decide (48 ≤ cp ∧ cp ≤ 57) from decide_eq_decide.mpr dig_in]
        exact ⟨rfl, rfl⟩
      · refine ⟨(List.range 10).map fun i => decide (48 ≤ (d10 (zl z)).getD i 0 ∧ (d10 (zl z)).getD i 0 ≤ 57), ?_, ?_⟩
        · rw [ld]
          show some (Kd.lst, _) = _
          simp [List.map_map, Function.comp_def]
        · have al := alld_all (l := d10 (zl z))
          rw [l10] at al
          generalize ((List.range 10).map fun i => decide (48 ≤ (d10 (zl z)).getD i 0 ∧ (d10 (zl z)).getD i 0 ≤ 57)).all id = bb at al
          refine ⟨bb, rfl, ?_⟩
          refine ite_bool (fun hb2 => ?_) fun hb2 => ?_
          · have ad := al.mp hb2
            have adt := alld_iff.mp ad
            have c5 : zl (cutS (cutS z (some (-10)) none) none (some 5)) = (d10 (zl z)).take 5 := by rw [show (5 : Int) = ((5 : Nat) : Int) from rfl, cut_lo, zd]
            have c6 : zl (cutS (cutS z (some (-10)) none) (some 5) none) = (d10 (zl z)).drop 5 := by rw [show (5 : Int) = ((5 : Nat) : Int) from rfl, cut_hi, zd]
            have t5 : ((d10 (zl z)).take 5).length = 5 := by rw [List.length_take]; omega
            have t6 : ((d10 (zl z)).drop 5).length = 5 := by rw [List.length_drop]; omega
            have i5 : PySem.intText? (cutS (cutS z (some (-10)) none) none (some 5)) = some (v1 (zl z)) := by
              have := dg_read (x := cutS (cutS z (some (-10)) none) none (some 5)) (by show NumText.AllDigits (zl _); rw [c5]; exact adt.1) (by rw [zl_len, c5, t5])
              rw [this]
              show some (((NumText.digitsVal (zl _) : Nat)) : Int) = _
              rw [c5]; rfl
            have i6 : PySem.intText? (cutS (cutS z (some (-10)) none) (some 5) none) = some (v2 (zl z)) := by
              have := dg_read (x := cutS (cutS z (some (-10)) none) (some 5) none) (by show NumText.AllDigits (zl _); rw [c6]; exact adt.2) (by rw [zl_len, c6, t6])
              rw [this]
              show some (((NumText.digitsVal (zl _) : Nat)) : Int) = _
              rw [c6]; rfl
            have lz : (cutS z (some (-10)) none).length ≤ sizeLine := sz_str (by have := cut_le z (some (-10)) none; omega)
            refine jss_for bx (fun i s => ∃ o3 o4 o5, s = nst z (if i = 0 then L else (nearO (zl z)).toList) o3 o4 o5) (ji_lst (je_callPd d_law_with_sums bx (by decide) ?_)) (by intro _; rfl)
            iterate 3 walk_at "st"
            refine je_ints g_int ?_ (by intro _ _; rfl)
            walk_at "go"
            refine ⟨_, _, rfl, i5, by rw [zl_len, c5, t5]; decide, ?_⟩
            iterate 1 walk_at "st"
            refine je_ints g_int ?_ (by intro _ _; rfl)
            walk_at "go"
            refine ⟨_, _, rfl, i6, by rw [zl_len, c6, t6]; decide, ?_⟩
            walk_at "go"
            refine ap_lws st (by have := zl_len (S0 (txt (zl z))); have : (S0 (txt (zl z))).length = (txt (zl z)).length := this; omega) ?_
            show RtΦd _ _ (Rt.new .lst (lsS (fixO (txt (zl z)) (v1 (zl z)) (v2 (zl z))).toList))
            refine rtΦd_new ⟨_, rfl, ⟨_, _, _, rfl⟩, ?_, ?_⟩
            · rintro i v s' hi ⟨d, hd, rfl⟩ ⟨o3, o4, o5, rfl⟩
              cases e : fixO (txt (zl z)) (v1 (zl z)) (v2 (zl z)) with
              | none => rw [e] at hi; exact absurd hi (Nat.not_lt_zero i)
              | some o =>
                rw [e] at hi hd
                obtain rfl : i = 0 := by
                  have : i < 1 := hi
                  omega
                obtain rfl : d = .str (S0 o) := by
                  have : some (D.str (S0 o)) = some d := hd
                  cases this; rfl
                have hF := fixO_is e
                obtain ⟨so, lo⟩ := hF.sg (hs.take _)
                have sto : Sg (zl (S0 o)) := so
                have lo2 : (S0 o).length = o.length := zl_len (S0 o)
                rw [if_pos rfl, if_neg (by omega)]
                unfold nst
                refine jg_name w4 ?_
                have nin : S0 o ∉ L.map S0 := fun hm => by
                  rcases hL with ⟨_, rfl⟩ | ⟨_, rfl⟩
                  · have hm : S0 o = S0 (txt (zl z)) := by simpa using hm
                    exact hF.ne (congrArg zl hm)
                  · simp at hm
                refine jss_if1 (jt_w (jw_and (jt_cmp ?_ (by rfl))))
                iterate 2 walk_at "st"
                refine jr_ninStrs (ts := L.map S0) (kd := .lst) (by show some (Kd.lst, _) = _; simp [List.map_map, Function.comp_def]) (.inl rfl) ?_
                rw [decide_eq_false nin]
                refine ⟨true, rfl, ?_⟩
                walk_at "go"
                refine ap_sealed sto (by omega) ?_
                walk_at "go"
                refine ap_diff (by show (sl o).length = _; rw [sl_len]; omega) (by rw [zl_len]; show (sl o).length ≤ _; rw [sl_len]; omega) ?_
                walk_at "go"
                · rename_i hq
                  have hq : ((df (sl o) (zl z) : Nat) : Int) ≤ 1 := hq
                  have L0 : L = [] ∧ ¬ df (sl (txt (zl z))) (zl z) ≤ 1 := by
                    rcases hL with ⟨h1, rfl⟩ | ⟨h1, rfl⟩
                    · exact absurd (near_uniq lo (by rw [lo]; omega) (by rw [lo]; omega) so.ok (hs.take _).ok (show df (sl o) (zl z) ≤ 1 by omega) h1) hF.ne
                    · exact ⟨rfl, h1⟩
                  obtain ⟨rfl, h1⟩ := L0
                  refine je_append ?_
                  walk_at "go"
                  refine ⟨0, _, rfl, rfl, ?_⟩
                  walk_at "go"
                  refine ⟨by rw [sizeLine_eq]; decide, ?_⟩
                  walk_at "go"
                  rw [near_b h12 h1, fixN_1 ad e (by omega)]
                  exact ⟨_, _, _, rfl⟩
                · rename_i hq
                  have hq : ¬ ((df (sl o) (zl z) : Nat) : Int) ≤ 1 := hq
                  have : L = (nearO (zl z)).toList := by
                    rcases hL with ⟨h1, rfl⟩ | ⟨h1, rfl⟩
                    · rw [near_a h12 h1]; rfl
                    · rw [near_b h12 h1, fixN_2 e (by omega)]; rfl
                  rw [this]
                  exact ⟨_, _, _, rfl⟩
            · rintro s' ⟨o3, o4, o5, rfl⟩
              refine jss_nilT ⟨o3, o4, o5, ?_⟩
              cases e : fixO (txt (zl z)) (v1 (zl z)) (v2 (zl z)) with
              | none =>
                have : L = (nearO (zl z)).toList := by
                  rcases hL with ⟨h1, rfl⟩ | ⟨h1, rfl⟩
                  · rw [near_a h12 h1]; rfl
                  · rw [near_b h12 h1, fixN_0 e]; rfl
                rw [← this]
                exact congrArg (fun M => nst z M o3 o4 o5) (ite_self _)
              | some o => exact congrArg (fun M => nst z M o3 o4 o5) (if_neg (by show ¬ 1 = 0; decide))
          · refine jss_nilT ?_
            have nd : ¬ NumText.AllDigits (d10 (zl z)) := fun h => by rw [al.mpr h] at hb2; cases hb2
            refine ⟨some (.d (.str (cutS z (some (-10)) none))), none, none, ?_⟩
            have : L = (nearO (zl z)).toList := by
              rcases hL with ⟨h1, rfl⟩ | ⟨h1, rfl⟩
              · rw [near_a h12 h1]; rfl
              · rw [near_b h12 h1, fixN_d nd]; rfl
            rw [this]
            rfl
    · rintro s1 ⟨o3, o4, o5, rfl⟩
      unfold nst
      walk_at "go"
      exact ⟨.lst, _, _, rfl, dsOf_map _, Nat.zero_le _, k⟩
end
end
section
set_option pp.maxSteps 260
open PySem PySem.Spec PyProof.Rows L2 DL SE
local macro_rules | `(tactic| walk_at "je") => `(tactic| first
  | ((with_reducible refine' je_zfill ?_ ?z1 ?z2 ?z3); (case z1 => intro _ _; rfl); (case z2 => rfl); (case z3 => rfl))
  | ((with_reducible refine' je_ord ?zg ?_ ?zs); (case zg => with_reducible assumption); (case zs => intro _ _; rfl))
  | ((with_reducible refine' je_call0 ?zn ?zb ?zk ?_ ?z1); (case zn => with_reducible assumption); (case zb => with_reducible assumption); (case zk => first | exact Nat.le_refl _ | decide); (case z1 => decide)))
def R_any : RC1 := fun kd cds ds post => kd = .lst ∧ PoolD cds ∧ ∃ n : Nat, ds = [.int n] ∧ n ≤ 90000 ∧ ∀ (z : Str) cds', Sg (zl z) → z.length = n → PoolD cds' → post (.dat (.str z)) .lst cds'
theorem ap_any {cds : List D} {n : Nat} {post : Rt → Kd → List D → Prop} (hp : PoolD cds) (hn : n ≤ 90000) (h : ∀ (z : Str) cds', Sg (zl z) → z.length = n → PoolD cds' → post (.dat (.str z)) .lst cds') : R_any .lst cds [.int n] post := ⟨rfl, hp, n, rfl, hn, h⟩
theorem mo_any : MonoC R_any := fun kd cds ds p q m ⟨a, b, c, d, e, h⟩ => ⟨a, b, c, d, e, fun z r h1 h2 h3 => m _ _ _ (h z r h1 h2 h3)⟩
def R_other : RC1 := fun kd cds ds post => kd = .lst ∧ PoolD cds ∧ ∃ z : Str, ds = [.str z] ∧ Sg (zl z) ∧ 12 ≤ z.length ∧ z.length ≤ 90012 ∧ ∀ (y : Str) cds', Sg (zl y) → (y.length ≤ z.length ∨ ∃ i, i + 1 < z.length ∧ zl y = (zl z).take (i + 1) ++ (zl z).drop i) → PoolD cds' → post (.dat (.str y)) .lst cds'
theorem ap_other {cds : List D} {z : Str} {post : Rt → Kd → List D → Prop} (hp : PoolD cds) (hs : Sg (zl z)) (h1 : 12 ≤ z.length) (h2 : z.length ≤ 90012) (h : ∀ (y : Str) cds', Sg (zl y) → (y.length ≤ z.length ∨ ∃ i, i + 1 < z.length ∧ zl y = (zl z).take (i + 1) ++ (zl z).drop i) → PoolD cds' → post (.dat (.str y)) .lst cds') : R_other .lst cds [.str z] post := ⟨rfl, hp, z, rfl, hs, h1, h2, h⟩
theorem mo_other : MonoC R_other := fun kd cds ds p q m ⟨a, b, c, d, e, f, g, h⟩ => ⟨a, b, c, d, e, f, g, fun z r h1 h2 h3 => m _ _ _ (h z r h1 h2 h3)⟩
theorem sg_app {a b : Str} (h : Sg (zl a)) (h2 : Sg (zl b)) : Sg (zl (a ++ b)) := by rw [zl_app]; exact h.app h2
theorem sg_cut {a : Str} (h : Sg (zl a)) (lo hi : Option Int) : Sg (zl (cutS a lo hi)) := by rw [zl_cut]; exact (h.drop _).take _
theorem sg_one1 {c : Nat} (h : c ∈ sgs) : Sg (zl ⟨#[c]⟩) := fun x hx => by
  have hx : x ∈ [c] := hx
  obtain rfl : x = c := by simpa using hx
  exact h
local macro_rules | `(tactic| walk_at "jr") => `(tactic| ((with_reducible refine' jr_mulS2 ?z1 ?z2 ?_); (case z1 => omega); (case z2 => constructor <;> omega)))
section
variable {P : Program} {w : World} {K : PySem.W.Frag} {mg : Str → Option Value} {base : Heap}
theorem ok_any {f : Addr} {fd : FuncData} (C : Bs4 mg) (c_law_signs : CaP P w K mg base "_law_signs" 1 R_sg) (c_law_draw : CaC P w K mg base "_law_draw" 3 R_draw) (Fu : Fun K "_law_any_text" "_law_any_text" s_law_any_text f fd) : FnOk P w K mg base CX0 4 f fd ["pool", "size"] (spC K R_any) := by
  refine fn_C Fu sc_law_any_text (fun kd cds ds post h => ?_) fun X F kd cds ds post hX hfn hH h => ?_
  · obtain ⟨_, _, _, rfl, _⟩ := h
    rfl
  · obtain ⟨rfl, hp, n, rfl, hn, k⟩ := h
    have bx := hX.bx
    have r0 := hX.nmR (i := 0) (x := "pool") rfl (by first | exact Or.inl (by decide +kernel) | exact Or.inr (Or.inl (by decide +kernel))); have w0 := hX.nmW (i := 0) (x := "pool") rfl (by decide +kernel); have r1 := hX.nmR (i := 1) (x := "size") rfl (by first | exact Or.inl (by decide +kernel) | exact Or.inr (Or.inl (by decide +kernel))); have w1 := hX.nmW (i := 1) (x := "size") rfl (by decide +kernel); have r2 := hX.nmR (i := 2) (x := "signs") rfl (by first | exact Or.inl (by decide +kernel) | exact Or.inr (Or.inl (by decide +kernel))); have w2 := hX.nmW (i := 2) (x := "signs") rfl (by decide +kernel); have r3 := hX.nmR (i := 3) (x := "text") rfl (by first | exact Or.inl (by decide +kernel) | exact Or.inr (Or.inl (by decide +kernel))); have w3 := hX.nmW (i := 3) (x := "text") rfl (by decide +kernel); have r4 := hX.nmR (i := 4) (x := "k") rfl (by first | exact Or.inl (by decide +kernel) | exact Or.inr (Or.inl (by decide +kernel))); have w4 := hX.nmW (i := 4) (x := "k") rfl (by decide +kernel); have d_law_signs := c_law_signs.at hX (by decide +kernel); have g_range := hX.glb (x := "range") (by decide +kernel) C.b_range; have g_min := hX.glb (x := "min") (by decide +kernel) C.b_min; have d_law_draw := c_law_draw.at hX (by decide +kernel); have g_len := hX.glb (x := "len") (by decide +kernel) C.b_len
    have szg : SG.cps.toList.length = 94 := sgs_len
    have sgl : SG.length ≤ sizeLine := sz_str (by show SG.cps.size ≤ _; rw [← Array.length_toList, szg]; decide)
    have sgI : (SG.length : Int) = 94 := by rw [zl_len]; show ((SG.cps.toList.length : Nat) : Int) = 94; rw [szg]; rfl
    conv => (arg 3; whnf)
    walk_at "go"
    refine ap_sg ?_
    walk_at "go"
    refine jss_for bx (fun i s => ∃ (cds : List D) (z : Str) (o4 : Option E), PoolD cds ∧ Sg (zl z) ∧ z.length = i ∧ s = ⟨[some (.r 0), some (.d (.int n)), some (.d (.str SG)), some (.d (.str z)), o4], [.nd .lst (cds.map .d)], 1⟩) (ji_range1 g_range (je_min2 bx g_min ?_ (by intro _ _; rfl) (by intro _ _; rfl)) (by intro _ _; rfl)) (by intro _; rfl)
    walk_at "go"
    have emin : (if (24 : Int) < n then 24 else (n : Int)) = ((min n 24 : Nat) : Int) := by
      by_cases h : n ≤ 24
      · rw [Nat.min_eq_left h, if_neg (by omega)]
      · rw [Nat.min_eq_right (by omega), if_pos (by omega)]; rfl
    have lmin : min n 24 ≤ 24 := Nat.min_le_right _ _
    refine ⟨_, _, rfl, rfl, _, rfl, by rw [emin]; constructor <;> omega, ⟨cds, Str.ofString "", _, hp, (by intro c hc; cases hc), rfl, rfl⟩, ?_, ?_⟩
    · rintro i v s' hi hv ⟨cds1, z, o4, hp1, hz, hzl, rfl⟩
      rw [emin] at hi
      have hi24 : i < 24 := by omega
      have zsz : z.length ≤ sizeLine := sz_str (by omega)
      refine jg_name w4 ?_
      walk_at "go"
      refine ap_draw hp1 (lim_of (by omega) (by omega)) fun u cds2 u0 u1 hp2 => ?_
      obtain ⟨c, ec, mc⟩ := atI_in (xs := SG.cps.toList) (i := u) u0 (by omega)
      walk_at "go"
      refine jx_str sgl ec ?_
      walk_at "go"
      · refine ⟨cds2, _, _, hp2, sg_app hz (sg_one1 mc), ?_, rfl⟩
        rw [len_app, hzl]; rfl
      · exact sz_str (by show _ + 1 ≤ _; omega)
    · rintro s' ⟨cds1, z, o4, hp1, hz, hzl, rfl⟩
      rw [emin] at hzl
      have hzl : z.length = min n 24 := by omega
      refine jss_ifM (fun s => ∃ (z : Str), Sg (zl z) ∧ n ≤ z.length ∧ z.length ≤ 200000 ∧ s = ⟨[some (.r 0), some (.d (.int n)), some (.d (.str SG)), some (.d (.str z)), o4], [.nd .lst (cds1.map .d)], 1⟩) ?_ ?_
      · refine jt_cmp ?_ (by rfl)
        iterate 5 walk_at "st"
        · rename_i h24
          have zsz : z.length ≤ sizeLine := sz_str (by omega)
          have l3 : (z ++ Str.ofString "0~ ").length = z.length + 3 := len_app _ _
          walk_at "go"
          · refine ⟨_, ?_, ?_, ?_, rfl⟩
            · intro c hc
              have := repS_mem hc
              exact sg_app hz (by intro c hc; have : c ∈ [48, 126, 32] := hc; exact sg_iff.mpr (by simp at this; omega)) c this
            · rw [repS_len, l3]
              have : z.length = 24 := by omega
              rw [this]; omega
            · rw [repS_len, l3]
              have : z.length = 24 := by omega
              rw [this]; omega
          · exact sz_str (by show _ + 3 ≤ _; omega)
        · rename_i h24
          exact jss_nilT ⟨z, hz, by omega, by omega, rfl⟩
      · rintro s1 ⟨z, hz, hz1, hz2, rfl⟩
        have zsz : z.length ≤ sizeLine := sz_str (by omega)
        walk_at "go"
        exact ⟨.lst, _, _, rfl, dsOf_map _, k _ _ (sg_cut hz _ _) (by rw [zl_len, cut_lo, List.length_take, ← zl_len]; omega) hp1⟩
theorem ok_other {f : Addr} {fd : FuncData} (C : Bs4 mg) (c_law_draw : CaC P w K mg base "_law_draw" 3 R_draw) (Fu : Fun K "_law_other" "_law_other" s_law_other f fd) : FnOk P w K mg base CX0 4 f fd ["pool", "line"] (spC K R_other) := by
  refine fn_C Fu sc_law_other (fun kd cds ds post h => ?_) fun X F kd cds ds post hX hfn hH h => ?_
  · obtain ⟨_, _, _, rfl, _⟩ := h
    rfl
  · obtain ⟨rfl, hp, z, rfl, hs, h1, h2, k⟩ := h
    have bx := hX.bx
    have r0 := hX.nmR (i := 0) (x := "pool") rfl (by first | exact Or.inl (by decide +kernel) | exact Or.inr (Or.inl (by decide +kernel))); have w0 := hX.nmW (i := 0) (x := "pool") rfl (by decide +kernel); have r1 := hX.nmR (i := 1) (x := "line") rfl (by first | exact Or.inl (by decide +kernel) | exact Or.inr (Or.inl (by decide +kernel))); have w1 := hX.nmW (i := 1) (x := "line") rfl (by decide +kernel); have r2 := hX.nmR (i := 2) (x := "way") rfl (by first | exact Or.inl (by decide +kernel) | exact Or.inr (Or.inl (by decide +kernel))); have w2 := hX.nmW (i := 2) (x := "way") rfl (by decide +kernel); have r3 := hX.nmR (i := 3) (x := "at") rfl (by first | exact Or.inl (by decide +kernel) | exact Or.inr (Or.inl (by decide +kernel))); have w3 := hX.nmW (i := 3) (x := "at") rfl (by decide +kernel); have d_law_draw := c_law_draw.at hX (by decide +kernel); have g_len := hX.glb (x := "len") (by decide +kernel) C.b_len
    have zz := zl_len z
    have zsz : z.length ≤ sizeLine := sz_str (by omega)
    conv => (arg 3; whnf)
    walk_at "go"
    refine ap_draw hp (lim_of (by decide) (by decide)) fun v cds2 v0 v1 hp2 => ?_
    walk_at "go"
    refine ap_draw hp2 (lim_of (by omega) (by omega)) fun i cds3 i0 i1 hp3 => ?_
    obtain ⟨i, rfl⟩ := Int.eq_ofNat_of_zero_le i0
    have gi : ∀ {j : Nat}, j < z.length → ∃ c, (zl z)[j]? = some c ∧ c ∈ sgs := fun {j} hj => ⟨(zl z)[j], List.getElem?_eq_getElem (by omega), hs _ (List.getElem_mem (by omega))⟩
    obtain ⟨c, gc, mc⟩ := gi (j := i) (by omega)
    obtain ⟨d, gd, md⟩ := gi (j := i + 1) (by omega)
    have ga := cut_lo z i
    have gb := cut_hi z i
    have gc1 := cut_hi z (i + 1)
    have gd2 := cut_hi z (i + 2)
    have e1 : ((i : Int) + 1) = ((i + 1 : Nat) : Int) := rfl
    have e2 : ((i : Int) + 2) = ((i + 2 : Nat) : Int) := rfl
    walk_at "go"
    · refine ⟨.lst, _, _, rfl, dsOf_map _, k _ _ (sg_app (sg_cut hs _ _) (sg_cut hs _ _)) (.inl ?_) hp3⟩
      rw [e1, zl_len, zl_app, ga, gc1, List.length_append, List.length_take, List.length_drop]; omega
    · have := cut_le z none (some (i : Int))
      have := cut_le z (some ((i : Int) + 1)) none
      exact sz_str (by omega)
    · refine jx_str zsz (L2.atI_nat gc) ?_
      walk_at "go"
      · refine ⟨.lst, _, _, rfl, dsOf_map _, k _ _ (sg_app (sg_app (sg_cut hs _ _) (sg_one1 mc)) (sg_cut hs _ _)) (.inr ⟨i, by omega, ?_⟩) hp3⟩
        rw [zl_app, zl_app, ga, gb, List.take_add_one, gc]
        rfl
      · rw [len_app]
        have := cut_le z none (some (i : Int))
        have := cut_le z (some (i : Int)) none
        exact sz_str (by show _ + 1 + _ ≤ _; omega)
      · have := cut_le z none (some (i : Int))
        exact sz_str (by show _ + 1 ≤ _; omega)
    · rw [e1]
      refine jx_str zsz (L2.atI_nat gd) ?_
      walk_at "go"
      · refine jx_str zsz (L2.atI_nat gc) ?_
        walk_at "go"
        · refine ⟨.lst, _, _, rfl, dsOf_map _, k _ _ (sg_app (sg_app (sg_app (sg_cut hs _ _) (sg_one1 md)) (sg_one1 mc)) (sg_cut hs _ _)) (.inl ?_) hp3⟩
          rw [e2, len_app, len_app, len_app, zl_len, ga, zl_len (cutS z (some _) none), gd2, List.length_take, List.length_drop]
          show min i (zl z).length + 1 + 1 + _ ≤ _
          omega
        · rw [len_app, len_app]
          have := cut_le z none (some (i : Int))
          have := cut_le z (some ((i : Int) + 2)) none
          exact sz_str (by show _ + 1 + 1 + _ ≤ _; omega)
        · rw [len_app]
          have := cut_le z none (some (i : Int))
          exact sz_str (by show _ + 1 + 1 ≤ _; omega)
      · have := cut_le z none (some (i : Int))
        exact sz_str (by show _ + 1 ≤ _; omega)
    · refine ⟨.lst, _, _, rfl, dsOf_map _, k _ _ (sg_cut hs _ _) (.inl (cut_le z _ _)) hp3⟩
end
end
section
set_option pp.maxSteps 260
open PySem PySem.Spec PyProof.Rows L2 DL SE
local macro_rules | `(tactic| walk_at "je") => `(tactic| first
  | ((with_reducible refine' je_zfill ?_ ?z1 ?z2 ?z3); (case z1 => intro _ _; rfl); (case z2 => rfl); (case z3 => rfl))
  | ((with_reducible refine' je_ord ?zg ?_ ?zs); (case zg => with_reducible assumption); (case zs => intro _ _; rfl))
  | ((with_reducible refine' je_call0 ?zn ?zb ?zk ?_ ?z1); (case zn => with_reducible assumption); (case zb => with_reducible assumption); (case zk => first | exact Nat.le_refl _ | decide); (case z1 => decide)))
def R_repl : RC1 := fun kd cds ds post => kd = .lst ∧ PoolD cds ∧ ∃ (z : Str) (m : Nat), ds = [.str z, .int m] ∧ 1 ≤ m ∧ m ≤ 3 ∧ Sg (zl z) ∧ 12 ≤ z.length ∧ z.length ≤ 90012 ∧ ∀ (y : Str) cds', Sg (zl y) → (zl y).length = (zl z).length → (m ≤ 2 → df (zl z) (zl y) = m) → PoolD cds' → post (.dat (.str y)) .lst cds'
theorem ap_repl {cds : List D} {z : Str} {m : Nat} {post : Rt → Kd → List D → Prop} (hp : PoolD cds) (m1 : 1 ≤ m) (m2 : m ≤ 3) (hs : Sg (zl z)) (h1 : 12 ≤ z.length) (h2 : z.length ≤ 90012) (h : ∀ (y : Str) cds', Sg (zl y) → (zl y).length = (zl z).length → (m ≤ 2 → df (zl z) (zl y) = m) → PoolD cds' → post (.dat (.str y)) .lst cds') : R_repl .lst cds [.str z, .int m] post := ⟨rfl, hp, z, m, rfl, m1, m2, hs, h1, h2, h⟩
theorem mo_repl : MonoC R_repl := fun kd cds ds p q m ⟨a, b, c, d, e, f, g, h1, h2, h3, h⟩ => ⟨a, b, c, d, e, f, g, h1, h2, h3, fun z r q1 q2 q3 q4 => m _ _ _ (h z r q1 q2 q3 q4)⟩
abbrev ntI (ps : List Nat) : List Int := ps.map fun (q : Nat) => (q : Int)
def rst (cds : List D) (z : Str) (m : Nat) (ps : List Nat) (o5 o6 o7 o8 : Option E) : S := ⟨[some (.r 0), some (.d (.str z)), some (.d (.int m)), some (.d (.str SG)), some (.r 1), o5, o6, o7, o8], [.nd .lst (cds.map .d), .nd .lst (((ntI ps).map D.int).map .d)], 1⟩
theorem mem_ntI {u : Nat} {ps : List Nat} : ((u : Int) ∈ ntI ps) ↔ u ∈ ps := by
  rw [List.mem_map]
  constructor
  · rintro ⟨q, hq, e⟩
    have : q = u := by omega
    exact this ▸ hq
  · exact fun h => ⟨u, h, rfl⟩
section
variable {P : Program} {w : World} {K : PySem.W.Frag} {mg : Str → Option Value} {base : Heap}
theorem ok_repl {f : Addr} {fd : FuncData} (C : Bs4 mg) (c_law_signs : CaP P w K mg base "_law_signs" 1 R_sg) (c_law_draw : CaC P w K mg base "_law_draw" 3 R_draw) (Fu : Fun K "_law_replaced" "_law_replaced" s_law_replaced f fd) : FnOk P w K mg base CX0 4 f fd ["pool", "line", "many"] (spC K R_repl) := by
  refine fn_C Fu sc_law_replaced (fun kd cds ds post h => ?_) fun X F kd cds ds post hX hfn hH h => ?_
  · obtain ⟨_, _, _, _, rfl, _⟩ := h
    rfl
  · obtain ⟨rfl, hp, z, m, rfl, m1, m2, hs, h1, h2, k⟩ := h
    have bx := hX.bx
    have r0 := hX.nmR (i := 0) (x := "pool") rfl (by first | exact Or.inl (by decide +kernel) | exact Or.inr (Or.inl (by decide +kernel))); have w0 := hX.nmW (i := 0) (x := "pool") rfl (by decide +kernel); have r1 := hX.nmR (i := 1) (x := "line") rfl (by first | exact Or.inl (by decide +kernel) | exact Or.inr (Or.inl (by decide +kernel))); have w1 := hX.nmW (i := 1) (x := "line") rfl (by decide +kernel); have r2 := hX.nmR (i := 2) (x := "many") rfl (by first | exact Or.inl (by decide +kernel) | exact Or.inr (Or.inl (by decide +kernel))); have w2 := hX.nmW (i := 2) (x := "many") rfl (by decide +kernel); have r3 := hX.nmR (i := 3) (x := "signs") rfl (by first | exact Or.inl (by decide +kernel) | exact Or.inr (Or.inl (by decide +kernel))); have w3 := hX.nmW (i := 3) (x := "signs") rfl (by decide +kernel); have r4 := hX.nmR (i := 4) (x := "places") rfl (by first | exact Or.inl (by decide +kernel) | exact Or.inr (Or.inl (by decide +kernel))); have w4 := hX.nmW (i := 4) (x := "places") rfl (by decide +kernel); have r5 := hX.nmR (i := 5) (x := "k") rfl (by first | exact Or.inl (by decide +kernel) | exact Or.inr (Or.inl (by decide +kernel))); have w5 := hX.nmW (i := 5) (x := "k") rfl (by decide +kernel); have r6 := hX.nmR (i := 6) (x := "place") rfl (by first | exact Or.inl (by decide +kernel) | exact Or.inr (Or.inl (by decide +kernel))); have w6 := hX.nmW (i := 6) (x := "place") rfl (by decide +kernel); have r7 := hX.nmR (i := 7) (x := "j") rfl (by first | exact Or.inl (by decide +kernel) | exact Or.inr (Or.inl (by decide +kernel))); have w7 := hX.nmW (i := 7) (x := "j") rfl (by decide +kernel); have r8 := hX.nmR (i := 8) (x := "at") rfl (by first | exact Or.inl (by decide +kernel) | exact Or.inr (Or.inl (by decide +kernel))); have w8 := hX.nmW (i := 8) (x := "at") rfl (by decide +kernel); have d_law_signs := c_law_signs.at hX (by decide +kernel); have g_range := hX.glb (x := "range") (by decide +kernel) C.b_range; have d_law_draw := c_law_draw.at hX (by decide +kernel); have g_len := hX.glb (x := "len") (by decide +kernel) C.b_len; have g_int := hX.glb (x := "int") (by decide +kernel) C.b_int
    have zz := zl_len z
    have zsz : z.length ≤ sizeLine := sz_str (by omega)
    have szg : SG.cps.toList.length = 94 := sgs_len
    have sgl : SG.length ≤ sizeLine := sz_str (by show SG.cps.size ≤ _; rw [← Array.length_toList, szg]; decide)
    have sgI : (SG.length : Int) = 94 := by rw [zl_len]; show ((SG.cps.toList.length : Nat) : Int) = 94; rw [szg]; rfl
    conv => (arg 3; whnf)
    iterate 2 walk_at "st"
    refine ap_sg ?_
    iterate 1 walk_at "st"
    refine jss_set w4 (je_own (jn_lst ?_)) (by rfl)
    walk_at "st"
    refine ⟨by rw [sizeLine_eq]; decide, rfl, ?_⟩
    refine jss_for bx (fun i s => ∃ (cds : List D) (ps : List Nat) (o5 o6 o7 : Option E), PoolD cds ∧ ps.length = i ∧ (∀ q ∈ ps, q < z.length) ∧ (i ≤ 2 → ps.Nodup) ∧ s = rst cds z m ps o5 o6 o7 none) (ji_range1 g_range ?_ (by intro _ _; rfl)) (by intro _; rfl)
    walk_at "go"
    refine ⟨by omega, ⟨cds, [], none, none, none, hp, rfl, by simp, fun _ => List.nodup_nil, rfl⟩, ?_, ?_⟩
    · rintro i v s' hi hv ⟨cds1, ps, o5, o6, o7, hp1, hl, hq, hnd, rfl⟩
      unfold rst
      refine jg_name w5 ?_
      walk_at "go"
      refine ap_draw hp1 (lim_of (by omega) (by omega)) fun u cds2 u0 u1 hp2 => ?_
      walk_at "go"
      refine jss_ifM (fun s => ∃ (cds : List D) (u : Nat), PoolD cds ∧ u < z.length ∧ s = rst cds z m ps (some v) (some (.d (.int u))) o7 none) ?_ ?_
      · walk_at "go"
        refine ap_draw hp2 (lim_of (by decide) (by decide)) fun b2 cds3 b0 b1 hp3 => ?_
        walk_at "go"
        · refine ap_draw hp3 (lim_of (by decide) (by decide)) fun t cds4 t0 t1 hp4 => ?_
          walk_at "go"
          refine ⟨cds4, (z.length - 1 - t.toNat), hp4, by omega, ?_⟩
          have : (z.length : Int) - 1 - t = ((z.length - 1 - t.toNat : Nat) : Int) := by omega
          rw [this]
          rfl
        · refine ⟨cds3, u.toNat, hp3, by omega, ?_⟩
          have : u = (u.toNat : Int) := by omega
          rw [← this]
          rfl
      rintro s1 ⟨cds3, u, hp3, hu, rfl⟩
      unfold rst
      refine jss_for bx (fun j s => ∃ (u : Nat) (o7 : Option E), u < z.length ∧ (ps.length ≤ 1 → 1 ≤ j → u ∉ ps) ∧ s = rst cds3 z m ps (some v) (some (.d (.int u))) o7 none) (ji_range1 g_range ?_ (by intro _ _; rfl)) (by intro _; rfl)
      walk_at "go"
      refine ⟨by omega, ⟨u, o7, hu, fun _ h => absurd h (by decide), rfl⟩, ?_, ?_⟩
      · rintro j vj s' hj hvj ⟨u, o7, hu, hno, rfl⟩
        unfold rst
        refine jg_name w7 ?_
        walk_at "go"
        refine jr_inInts (ts := ntI ps) rfl (.inl rfl) ?_
        walk_at "go"
        · rename_i hin
          have hin := mem_ntI.mp hin
          refine ⟨(u + 1) % z.length, some vj, Nat.mod_lt _ (by omega), fun hl1 _ hc => ?_, ?_⟩
          · have hl0 := List.length_pos_of_mem hin
            obtain ⟨q, rfl⟩ : ∃ q, ps = [q] := List.length_eq_one_iff.mp (by omega)
            obtain rfl : u = q := by simpa using hin
            have hc : (u + 1) % z.length = u := by simpa using hc
            by_cases hw : u + 1 < z.length
            · rw [Nat.mod_eq_of_lt hw] at hc; omega
            · have : u + 1 = z.length := by omega
              rw [this, Nat.mod_self] at hc; omega
          · have : ((u : Int) + 1) % (z.length : Int) = (((u + 1) % z.length : Nat) : Int) := by rw [Int.natCast_emod]; rfl
            rw [this]
            rfl
        · rename_i hin
          exact ⟨u, some vj, hu, fun _ _ hc => hin (mem_ntI.mpr hc), rfl⟩
      · rintro s' ⟨u, o7, hu, hno, rfl⟩
        unfold rst
        walk_at "go"
        refine je_append ?_
        walk_at "go"
        refine ⟨1, _, rfl, rfl, ?_⟩
        walk_at "go"
        have hi3 : i < 3 := by omega
        refine ⟨by rw [List.length_map, List.length_map, List.length_map, sizeLine_eq]; omega, jss_nil (P := Po.mk _ _ _ _) ⟨cds3, ps ++ [u], some v, some (.d (.int u)), o7, hp3, by rw [List.length_append, hl]; rfl, fun q hm => ?_, fun hi2 => ?_, ?_⟩⟩
        · rcases List.mem_append.mp hm with hm | hm
          · exact hq q hm
          · obtain rfl : q = u := by simpa using hm
            exact hu
        · rw [List.nodup_append]
          refine ⟨hnd (by omega), by simp, fun a ha b hb e => ?_⟩
          obtain rfl : b = u := by simpa using hb
          subst e
          exact hno (by omega) (by omega) ha
        · have e4 : ((ntI (ps ++ [u])).map D.int).map E.d = ((ntI ps).map D.int).map E.d ++ [E.d (D.int (u : Int))] := by simp [ntI]
          rw [e4]
          rfl
    · rintro s' ⟨cds1, ps, o5, o6, o7, hp1, hl, hq, hnd, rfl⟩
      refine jss_weak (s' := rst cds1 z m ps none none none none) ⟨fun i e h => ?_, rfl, List.prefix_refl _, rfl, by show 1 ≤ 2; decide⟩ rfl ?_ ?_
      · rcases i with _ | _ | _ | _ | _ | _ | _ | _ | _ | i
        all_goals first | exact h | cases h
      · show (List.all _ _ && (List.all _ _ && true)) = true
        rw [lt_ds, lt_ds]
        rfl
      refine jss_frz' (k := 1) (kd := .lst) (ds := (ntI ps).map D.int) (s' := ⟨[some (.r 0), some (.d (.str z)), some (.d (.int m)), some (.d (.str SG)), some (.d (.nd .lst ((ntI ps).map D.int))), none, none, none, none], [.nd .lst (cds1.map .d), .gone], 1⟩) rfl (dsOf_map _) (fun C fs => nofun) (Nat.le_refl _) ?_ ?_
      · show (⟨_, [Cell.nd _ ((cds1.map E.d).map (E.fz 1 _)), _], _⟩ : S) = _
        rw [fz_map]
        rfl
      have hlm : ps.length = m := by omega
      refine jss_for bx (fun i s => ∃ (cds : List D) (y : Str) (o6 o8 : Option E), PoolD cds ∧ Sg (zl y) ∧ (zl y).length = (zl z).length ∧ (ps.Nodup → df (zl z) (zl y) = i ∧ ∀ q, q ∉ ps.take i → (zl y)[q]? = (zl z)[q]?) ∧ s = ⟨[some (.r 0), some (.d (.str y)), some (.d (.int m)), some (.d (.str SG)), some (.d (.nd .lst ((ntI ps).map D.int))), none, o6, none, o8], [.nd .lst (cds.map .d), .gone], 1⟩) (ji_lst ?_) (by intro _; rfl)
      walk_at "go"
      refine ⟨⟨cds1, z, none, none, hp1, hs, rfl, fun _ => ⟨df_self _, fun _ _ => rfl⟩, rfl⟩, ?_, ?_⟩
      · rintro i v s' hi ⟨d, hd, rfl⟩ ⟨cds2, y, o6, o8, hp2, hy, hyl, hI, rfl⟩
        rw [List.length_map, List.length_map] at hi
        have hpq : ps[i]? = some ps[i] := List.getElem?_eq_getElem hi
        generalize ps[i] = q at hpq
        obtain rfl : d = .int (q : Int) := by rw [List.getElem?_map, List.getElem?_map, hpq] at hd; cases hd; rfl
        have ql := hq q (List.mem_of_getElem? hpq)
        have qy : q < (zl y).length := by omega
        have gy : (zl y)[q]? = some (zl y)[q] := List.getElem?_eq_getElem qy
        have my : (zl y)[q] ∈ sgs := hy _ (List.getElem_mem qy)
        generalize (zl y)[q] = c at gy my
        obtain ⟨a, ha⟩ := List.getElem?_of_mem my
        have a94 : a < 94 := by have := (List.getElem?_eq_some_iff.mp ha).1; rw [sgs_len] at this; exact this
        have ysz : y.length ≤ sizeLine := sz_str (by rw [zl_len]; omega)
        refine jg_name w6 ?_
        refine jss_set w8 (je_sindex ?_ (by intro _ _; rfl)) (by rfl)
        walk_at "go"
        refine jx_str ysz (L2.atI_nat gy) ?_
        refine ⟨_, _, _, rfl, sg_index a a94 c ha, ?_⟩
        walk_at "go"
        refine ap_draw hp2 (lim_of (by omega) (by omega)) fun t cds3 t0 t1 hp3 => ?_
        have j94 : (a + 1 + t.toNat) % 94 < 94 := Nat.mod_lt _ (by decide)
        have hj : sgs[(a + 1 + t.toNat) % 94]? = some (sgs[(a + 1 + t.toNat) % 94]'(by rw [sgs_len]; exact j94)) := List.getElem?_eq_getElem _
        generalize sgs[(a + 1 + t.toNat) % 94]'(by rw [sgs_len]; exact j94) = c2 at hj
        have m2c : c2 ∈ sgs := List.mem_of_getElem? hj
        have ne2 : c2 ≠ c := fun e => by
          subst e
          have := nodup_get sgs_nd ha hj
          omega
        have ej : ((a : Int) + 1 + t) % (SG.length : Int) = (((a + 1 + t.toNat) % 94 : Nat) : Int) := by rw [sgI]; omega
        walk_at "go"
        rw [ej]
        · refine jx_str sgl (L2.atI_nat hj) ?_
          walk_at "go"
          · have ez : ((cutS y none (some (q : Int)) ++ (⟨#[c2]⟩ : Str)) ++ cutS y (some ((q : Int) + 1)) none) = S0 ((zl y).set q c2) := by
              refine zl_inj ?_
              rw [zl_app, zl_app, cut_lo, show (q : Int) + 1 = ((q + 1 : Nat) : Int) from rfl, cut_hi]
              exact set_cut qy
            rw [ez]
            refine ⟨cds3, S0 ((zl y).set q c2), _, _, hp3, hy.set q m2c, by show ((zl y).set q c2).length = _; rw [List.length_set]; exact hyl, fun hn => ?_, rfl⟩
            obtain ⟨d1, d2⟩ := hI hn
            have nq : q ∉ ps.take i := notin_take hn hpq
            have gz : (zl z)[q]? = some c := by rw [← d2 q nq]; exact gy
            refine ⟨?_, fun r hr => ?_⟩
            · show df (zl z) ((zl y).set q c2) = i + 1
              rw [df_set hyl.symm gz gy ne2, d1]
            · show ((zl y).set q c2)[r]? = _
              rw [List.take_add_one, hpq] at hr
              have r1 : r ∉ ps.take i := fun z => hr (List.mem_append_left _ z)
              have r2 : q ≠ r := fun z => hr (List.mem_append_right _ (by simp [z]))
              rw [List.getElem?_set_ne r2]
              exact d2 r r1
          · rw [len_app]
            have := cut_le y none (some (q : Int))
            have := cut_le y (some ((q : Int) + 1)) none
            have := zl_len y
            exact sz_str (by show _ + 1 + _ ≤ _; omega)
          · have := cut_le y none (some (q : Int))
            have := zl_len y
            exact sz_str (by show _ + 1 ≤ _; omega)
      · rintro s' ⟨cds2, y, o6, o8, hp2, hy, hyl, hI, rfl⟩
        rw [List.length_map, List.length_map] at hI
        walk_at "go"
        exact ⟨.lst, _, _, rfl, dsOf_map _, k _ _ hy hyl (fun h => by rw [(hI (hnd (by omega))).1]; exact hlm) hp2⟩
end
end
section
set_option pp.maxSteps 260
open PySem PySem.Spec PyProof.Rows L2 DL SE
local macro_rules | `(tactic| walk_at "je") => `(tactic| first
  | ((with_reducible refine' je_zfill ?_ ?z1 ?z2 ?z3); (case z1 => intro _ _; rfl); (case z2 => rfl); (case z3 => rfl))
  | ((with_reducible refine' je_ord ?zg ?_ ?zs); (case zg => with_reducible assumption); (case zs => intro _ _; rfl))
  | ((with_reducible refine' je_call0 ?zn ?zb ?zk ?_ ?z1); (case zn => with_reducible assumption); (case zb => with_reducible assumption); (case zk => first | exact Nat.le_refl _ | decide); (case z1 => decide)))
open Classical in
noncomputable def opL (l : List Nat) : List (List Nat) := if 12 ≤ l.length ∧ l.length ≤ 90012 ∧ sl (txt l) = l then [txt l] else []
def R_lop : RP := fun ds post => ∃ z : Str, ds = [.str z] ∧ Sg (zl z) ∧ z.length ≤ 90013 ∧ post (.new .lst (lsS (opL (zl z))))
theorem ap_lop {z : Str} {post : Rt → Prop} (h : Sg (zl z)) (hl : z.length ≤ 90013) (q : post (.new .lst (lsS (opL (zl z))))) : R_lop [.str z] post := ⟨z, rfl, h, hl, q⟩
theorem mo_lop : MonoP R_lop := fun ds p q m ⟨a, b, c, d, h⟩ => ⟨a, b, c, d, m _ h⟩
def R_lmen : RP := fun ds post => ∃ z : Str, ds = [.str z] ∧ Sg (zl z) ∧ z.length ≤ 90012 ∧ post (.new .lst (lsS (nearO (zl z)).toList))
theorem ap_lmen {z : Str} {post : Rt → Prop} (h : Sg (zl z)) (hl : z.length ≤ 90012) (q : post (.new .lst (lsS (nearO (zl z)).toList))) : R_lmen [.str z] post := ⟨z, rfl, h, hl, q⟩
theorem mo_lmen : MonoP R_lmen := fun ds p q m ⟨a, b, c, d, h⟩ => ⟨a, b, c, d, m _ h⟩
structure Bty (K : PySem.W.Frag) (mg : Str → Option Value) (CB CN : Addr) : Prop extends Btx K mg CB where
  exm : PySem.W.exmOne K (.ref CB) (.ref CB) = some true
  mgN : mg "NetworthError" = some (.ref CN)
  kN : PySem.W.kitCls K (.ref CB) (.ref CN) = some true
  ne : ((Value.ref CB) == (Value.ref CN)) = false
  kV : PySem.W.kitCls K (.ref CB) (.type "ValueError") = some true
section
variable {P : Program} {w : World} {K : PySem.W.Frag} {mg : Str → Option Value} {base : Heap}
theorem ok_lop {f CB CN : Addr} {fd : FuncData} (C : Bs4 mg) (T : Bty K mg CB CN) (c_opened : CaP P w K mg base "opened" 5 R_opened) (x_opened : CaX P w K mg base "opened" 5 (R_openedX CB)) (Fu : Fun K "_law_opened" "_law_opened" s_law_opened f fd) : FnOk P w K mg base CX0 6 f fd ["line"] (spP K R_lop) := by
  refine fn_PT Fu sc_law_opened (fun ds post h => ?_) fun X F ds post hX hfn hH hT h => ?_
  · obtain ⟨_, rfl, _⟩ := h
    rfl
  · obtain ⟨z, rfl, hs, hl, k⟩ := h
    have bx := hX.bx
    have r0 := hX.nmR (i := 0) (x := "line") rfl (by first | exact Or.inl (by decide +kernel) | exact Or.inr (Or.inl (by decide +kernel))); have w0 := hX.nmW (i := 0) (x := "line") rfl (by decide +kernel); have r1 := hX.nmR (i := 1) (x := "e") rfl (by first | exact Or.inl (by decide +kernel) | exact Or.inr (Or.inl (by decide +kernel))); have w1 := hX.nmW (i := 1) (x := "e") rfl (by decide +kernel); have d_opened := c_opened.at hX (by decide +kernel); have g_isinstance := hX.glb (x := "isinstance") (by decide +kernel) C.b_isinstance
    have zz := zl_len z
    have g_B : L2.Names X "BadText" (.ref CB) := ⟨hX.gl (by decide +kernel), by decide, .inl (by rw [hX.eM]; exact T.mgC)⟩
    have g_N : L2.Names X "NetworthError" (.ref CN) := ⟨hX.gl (by decide +kernel), by decide, .inl (by rw [hX.eM]; exact T.mgN)⟩
    conv => (arg 3; whnf)
    refine jss_try1 (i := 1) (C := CB) hT (by rw [hX.eN]; decide +kernel) (by rw [hX.eN]; rfl) (hX.loc (by decide +kernel)) g_B ?_
    intro F' pn xe hF' po tk
    have hX1 := hX.tr pn po
    have bx1 := hX1.bx
    have q0 := hX1.nmR (i := 0) (x := "line") rfl (by first | exact Or.inl (by decide +kernel) | exact Or.inr (Or.inl (by decide +kernel)))
    refine jss_ret (je_own (jn_lst ?_))
    by_cases hc : 12 ≤ (zl z).length ∧ (zl z).length ≤ 90012 ∧ sl (txt (zl z)) = zl z
    · have eo : opL (zl z) = [txt (zl z)] := if_pos hc
      rw [eo] at k
      have d_opened := c_opened.at hX1 (by decide +kernel)
      walk_at "go"
      refine ap_opened hs (by omega) (by omega) hc.2.2 ?_
      walk_at "go"
      exact ⟨rfl, .lst, _, _, rfl, rfl, Nat.zero_le _, k⟩
    · have eo : opL (zl z) = [] := if_neg hc
      rw [eo] at k
      have d_x := x_opened.at hX1 (by decide +kernel)
      refine ja_cons (je_callE tk d_x bx1 (by decide) ?_) (by rfl)
      walk_at "go"
      refine ap_openedX hs (by omega) (by rw [zz]; exact hc) ⟨by rw [hX.eK]; exact T.exm, fun a o Y ho hY => ?_⟩
      have q1 := hY.nmR r1
      refine jss_ret (je_ife (jt_val (je_isY hY g_isinstance g_N (by rw [hX.eK]; exact T.kN) T.ne ?_ (by rfl) (by rfl)) (by intro _; rfl)))
      walk_at "go"
      refine ⟨[], [], rfl, true, rfl, ?_⟩
      rw [if_pos rfl]
      refine je_own (jn_lst ?_)
      walk_at "go"
      exact ⟨rfl, .lst, _, _, rfl, rfl, Nat.zero_le _, k⟩
theorem ok_lmen {f CB CN : Addr} {fd : FuncData} (C : Bs4 mg) (T : Bty K mg CB CN) (c_mended : CaP P w K mg base "mended" 5 R_mended) (x_mended : CaX P w K mg base "mended" 5 (R_mendedX CB)) (Fu : Fun K "_law_mended" "_law_mended" s_law_mended f fd) : FnOk P w K mg base CX0 6 f fd ["line"] (spP K R_lmen) := by
  refine fn_PT Fu sc_law_mended (fun ds post h => ?_) fun X F ds post hX hfn hH hT h => ?_
  · obtain ⟨_, rfl, _⟩ := h
    rfl
  · obtain ⟨z, rfl, hs, hl, k⟩ := h
    have bx := hX.bx
    have r0 := hX.nmR (i := 0) (x := "line") rfl (by first | exact Or.inl (by decide +kernel) | exact Or.inr (Or.inl (by decide +kernel))); have w0 := hX.nmW (i := 0) (x := "line") rfl (by decide +kernel); have r1 := hX.nmR (i := 1) (x := "e") rfl (by first | exact Or.inl (by decide +kernel) | exact Or.inr (Or.inl (by decide +kernel))); have w1 := hX.nmW (i := 1) (x := "e") rfl (by decide +kernel); have d_mended := c_mended.at hX (by decide +kernel); have g_isinstance := hX.glb (x := "isinstance") (by decide +kernel) C.b_isinstance
    have zz := zl_len z
    have g_B : L2.Names X "BadText" (.ref CB) := ⟨hX.gl (by decide +kernel), by decide, .inl (by rw [hX.eM]; exact T.mgC)⟩
    have g_N : L2.Names X "ValueError" (.type "ValueError") := ⟨hX.gl (by decide +kernel), by decide, .inr ⟨by rw [hX.eM]; exact C.b_ValueError, by decide +kernel, by decide⟩⟩
    conv => (arg 3; whnf)
    refine jss_try1 (i := 1) (C := CB) hT (by rw [hX.eN]; decide +kernel) (by rw [hX.eN]; rfl) (hX.loc (by decide +kernel)) g_B ?_
    intro F' pn xe hF' po tk
    have hX1 := hX.tr pn po
    have bx1 := hX1.bx
    have q0 := hX1.nmR (i := 0) (x := "line") rfl (by first | exact Or.inl (by decide +kernel) | exact Or.inr (Or.inl (by decide +kernel)))
    refine jss_ret (je_own (jn_lst ?_))
    cases e : nearO (zl z) with
    | some o =>
      rw [e] at k
      have d_mended := c_mended.at hX1 (by decide +kernel)
      walk_at "go"
      refine ap_mended hs (by omega) e ?_
      walk_at "go"
      exact ⟨rfl, .lst, _, _, rfl, rfl, Nat.zero_le _, k⟩
    | none =>
      rw [e] at k
      have d_x := x_mended.at hX1 (by decide +kernel)
      refine ja_cons (je_callE tk d_x bx1 (by decide) ?_) (by rfl)
      walk_at "go"
      refine ap_mendedX hs (by omega) e ⟨by rw [hX.eK]; exact T.exm, fun a o Y ho hY => ?_⟩
      have q1 := hY.nmR r1
      refine jss_ret (je_ife (jt_val (je_isY hY g_isinstance g_N (by rw [hX.eK]; exact T.kV) (by rfl) ?_ (by rfl) (by rfl)) (by intro _; rfl)))
      walk_at "go"
      refine ⟨[], [], rfl, true, rfl, ?_⟩
      rw [if_pos rfl]
      refine je_own (jn_lst ?_)
      walk_at "go"
      exact ⟨rfl, .lst, _, _, rfl, rfl, Nat.zero_le _, k⟩
theorem sg_strOk {l : List Nat} (h : Sg l) : PyData.strOk (S0 l) = true := by
  show l.toArray.all _ = true
  rw [← Array.all_toList, List.all_eq_true]
  intro c hc
  have := sg_iff.mp (h c hc)
  exact decide_eq_true (by omega)
def R_right : RP := fun ds post => ∃ (z t : Str) (m : Nat), ds = [.str z, .str t, .int m] ∧ Sg (zl z) ∧ Sg (zl t) ∧ z.length = t.length + 12 ∧ z.length ≤ 90012 ∧ m ≤ 2 ∧ df (sl (zl t)) (zl z) = m ∧ post (.dat (.bl true))
theorem ap_right {z t : Str} {m : Nat} {post : Rt → Prop} (h1 : Sg (zl z)) (h2 : Sg (zl t)) (h3 : z.length = t.length + 12) (h4 : z.length ≤ 90012) (h5 : m ≤ 2) (h6 : df (sl (zl t)) (zl z) = m) (q : post (.dat (.bl true))) : R_right [.str z, .str t, .int m] post := ⟨z, t, m, rfl, h1, h2, h3, h4, h5, h6, q⟩
theorem mo_right : MonoP R_right := fun ds p q m ⟨a, b, c, d, e, f, g, h1, h2, h3, h⟩ => ⟨a, b, c, d, e, f, g, h1, h2, h3, m _ h⟩
theorem sm_ls {n : Nat} : ∀ (L : List (List Nat)), L.length ≤ 1000 → Sm (n + 2) (.nd .lst (lsS L)) (.nd .lst (lsS L)) := fun L hl => by
  refine ⟨_, rfl, rfl, by rw [List.length_map]; omega, fun i x y h1 h2 => ?_⟩
  rw [h1] at h2
  cases h2
  obtain ⟨o, _, rfl⟩ := List.mem_map.mp (List.mem_of_getElem? h1)
  rfl
theorem fl_ls {L : List (List Nat)} (h : ∀ o ∈ L, Sg o) : flD 2 (.nd .lst (lsS L)) = true := by
  show flDs 1 (lsS L) = true
  have e : lsS L = (L.map S0).map D.str := by rw [List.map_map]; rfl
  rw [e]
  refine fl_txs fun x hx => ?_
  obtain ⟨o, ho, rfl⟩ := List.mem_map.mp hx
  exact sg_strOk (h o ho)
theorem ok_right {f : Addr} {fd : FuncData} (C : Bs4 mg) (c_law_near : CaP P w K mg base "_law_near" 3 R_near) (c_law_same : CaP P w K mg base "_law_same" 3 (R_same 3)) (c_law_opened : CaP P w K mg base "_law_opened" 6 R_lop) (c_law_mended : CaP P w K mg base "_law_mended" 6 R_lmen) (Fu : Fun K "_law_right" "_law_right" s_law_right f fd) : FnOk P w K mg base CX0 7 f fd ["line", "text", "many"] (spP K R_right) := by
  refine fn_P Fu sc_law_right (fun ds post h => ?_) fun X F ds post hX hfn hH h => ?_
  · obtain ⟨_, _, _, rfl, _⟩ := h
    rfl
  · obtain ⟨z, t, m, rfl, hs, ht, hl, hl2, hm, hd, k⟩ := h
    have bx := hX.bx
    have r0 := hX.nmR (i := 0) (x := "line") rfl (by first | exact Or.inl (by decide +kernel) | exact Or.inr (Or.inl (by decide +kernel))); have w0 := hX.nmW (i := 0) (x := "line") rfl (by decide +kernel); have r1 := hX.nmR (i := 1) (x := "text") rfl (by first | exact Or.inl (by decide +kernel) | exact Or.inr (Or.inl (by decide +kernel))); have w1 := hX.nmW (i := 1) (x := "text") rfl (by decide +kernel); have r2 := hX.nmR (i := 2) (x := "many") rfl (by first | exact Or.inl (by decide +kernel) | exact Or.inr (Or.inl (by decide +kernel))); have w2 := hX.nmW (i := 2) (x := "many") rfl (by decide +kernel); have r3 := hX.nmR (i := 3) (x := "due") rfl (by first | exact Or.inl (by decide +kernel) | exact Or.inr (Or.inl (by decide +kernel))); have w3 := hX.nmW (i := 3) (x := "due") rfl (by decide +kernel); have r4 := hX.nmR (i := 4) (x := "near") rfl (by first | exact Or.inl (by decide +kernel) | exact Or.inr (Or.inl (by decide +kernel))); have w4 := hX.nmW (i := 4) (x := "near") rfl (by decide +kernel); have d_law_near := c_law_near.at hX (by decide +kernel); have g_len := hX.glb (x := "len") (by decide +kernel) C.b_len; have d_law_same := c_law_same.at hX (by decide +kernel); have d_law_opened := c_law_opened.at hX (by decide +kernel); have d_law_mended := c_law_mended.at hX (by decide +kernel)
    have zz := zl_len z
    have tt := zl_len t
    have eop : opL (zl z) = if m = 0 then [zl t] else [] := by
      by_cases h0 : m = 0
      · subst h0
        have e := df_zero (by rw [sl_len]; omega) hd
        have e2 : txt (zl z) = zl t := by
          rw [← e]
          unfold txt
          rw [sl_len, Nat.add_sub_cancel, sl_take]
        rw [if_pos rfl]
        unfold opL
        rw [if_pos ⟨by omega, by omega, by rw [e2]; exact e⟩, e2]
      · rw [if_neg h0]
        unfold opL
        rw [if_neg fun ⟨_, _, q⟩ => not_sealed hs (by omega) (by omega) ht (by omega) (by omega) q]
    have enr : m ≤ 1 → nearO (zl z) = some (zl t) := fun h => near_is hs (by omega) (by omega) ht (by omega)
    conv => (arg 3; whnf)
    refine jss_set w3 (je_ife ?_) (by rfl)
    have hsame : ∀ (L : List (List Nat)), L.length ≤ 1 → Sm 3 (.nd .lst (lsS L)) (.nd .lst (lsS L)) := fun L h => sm_ls L (by omega)
    walk_at "go"
    · rename_i h0
      obtain rfl : m = 0 := by omega
      have en := enr (by decide)
      refine ap_near hs (by omega) ?_
      rw [en]
      have fl1 : flD 2 (.nd .lst (lsS [zl t])) = true := fl_ls (fun o ho => by (have e : o = zl t := (by simpa using ho)); rw [e]; exact ht)
      walk_at "go"
      · rename_i hb
        exact absurd hb (by show ¬ ((1 : Nat) : Int) > 1; decide)
      · refine jr_neN (n := 2) (ds1 := lsS [zl t]) (ds2 := lsS [zl t]) bx rfl rfl fl1 fl1 (by decide) ?_
        rw [eqv_self]
        refine ⟨false, rfl, ?_⟩
        walk_at "go"
        refine ap_lop hs (by omega) ?_
        rw [eop]
        walk_at "go"
        refine ap_same (hsame [zl t] (Nat.le_refl _)) ?_
        walk_at "go"
        refine ap_lmen hs (by omega) ?_
        rw [en]
        walk_at "go"
        refine ap_same (hsame [zl t] (Nat.le_refl _)) ?_
        walk_at "go"
        exact k
    · rename_i h0
      rw [if_neg (by omega)] at eop
      refine ap_near hs (by omega) ?_
      have hl1 : (nearO (zl z)).toList.length ≤ 1 := by cases nearO (zl z) <;> simp
      have hnn : m ≤ 1 → (nearO (zl z)).toList = [zl t] := fun h => by rw [enr h]; rfl
      have men : ∀ {post : Rt → Prop}, post (.new .lst (lsS (nearO (zl z)).toList)) → R_lmen [.str z] post := fun q => ap_lmen hs (by omega) q
      generalize (nearO (zl z)).toList = L at hl1 hnn men ⊢
      have fl1 : flD 2 (.nd .lst (lsS [zl t])) = true := fl_ls (fun o ho => by (have e : o = zl t := (by simpa using ho)); rw [e]; exact ht)
      have fin : ∀ {s : S}, True := trivial
      walk_at "go"
      · rename_i hb
        rw [List.length_map, List.length_map] at hb
        exfalso; omega
      · rename_i hm1 _
        obtain rfl := hnn (by omega)
        refine jr_neN (n := 2) (ds1 := lsS [zl t]) (ds2 := lsS [zl t]) bx rfl rfl fl1 fl1 (by decide) ?_
        rw [eqv_self]
        refine ⟨false, rfl, ?_⟩
        walk_at "go"
        refine ap_lop hs (by omega) ?_
        rw [eop]
        walk_at "go"
        refine ap_same (hsame [] (Nat.zero_le _)) ?_
        walk_at "go"
        refine men ?_
        walk_at "go"
        refine ap_same (hsame _ hl1) ?_
        walk_at "go"
        exact k
      · refine ap_lop hs (by omega) ?_
        rw [eop]
        walk_at "go"
        refine ap_same (hsame [] (Nat.zero_le _)) ?_
        walk_at "go"
        refine men ?_
        walk_at "go"
        refine ap_same (hsame _ hl1) ?_
        walk_at "go"
        exact k
end
end
section
set_option pp.maxSteps 260
open PySem PySem.Spec PyProof.Rows L2 DL SE
local macro_rules | `(tactic| walk_at "je") => `(tactic| first
  | ((with_reducible refine' je_zfill ?_ ?z1 ?z2 ?z3); (case z1 => intro _ _; rfl); (case z2 => rfl); (case z3 => rfl))
  | ((with_reducible refine' je_ord ?zg ?_ ?zs); (case zg => with_reducible assumption); (case zs => intro _ _; rfl))
  | ((with_reducible refine' je_call0 ?zn ?zb ?zk ?_ ?z1); (case zn => with_reducible assumption); (case zb => with_reducible assumption); (case zk => first | exact Nat.le_refl _ | decide); (case z1 => decide)))
def R_law : RP := fun ds post => ∃ ns : List Int, ds = [lsI ns] ∧ ns.length ≤ 63 ∧ post (.dat (.bl true))
def mst (ns : List Int) (cds : List D) (n : Nat) (o3 o4 o5 o6 o7 : Option E) : S := ⟨[some (.d (lsI ns)), some (.r 0), some (.d (.int n)), o3, o4, o5, o6, o7, none], [.nd .lst (cds.map .d)], 0⟩
section
variable {P : Program} {w : World} {K : PySem.W.Frag} {mg : Str → Option Value} {base : Heap}
theorem ok_law {f : Addr} {fd : FuncData} (C : Bs4 mg) (c_law_pool : CaP P w K mg base "_law_pool" 3 R_pool) (c_law_draw : CaC P w K mg base "_law_draw" 3 R_draw) (c_law_next : CaC P w K mg base "_law_next" 3 R_next) (c_law_any_text : CaC P w K mg base "_law_any_text" 4 R_any) (c_sealed : CaP P w K mg base "sealed" 4 R_sealed) (c_law_sealed : CaP P w K mg base "_law_sealed" 2 R_sealed)
    (c_law_same : CaP P w K mg base "_law_same" 3 (R_same 3)) (c_law_right : CaP P w K mg base "_law_right" 7 R_right) (c_law_replaced : CaC P w K mg base "_law_replaced" 4 R_repl) (c_law_mended : CaP P w K mg base "_law_mended" 6 R_lmen) (c_law_near : CaP P w K mg base "_law_near" 3 R_near) (c_law_other : CaC P w K mg base "_law_other" 4 R_other) (c_law_opened : CaP P w K mg base "_law_opened" 6 R_lop)
    (Fu : Fun K "law" "law" s_law f fd) : FnOk P w K mg base CX0 8 f fd ["script"] (spP K R_law) := by
  refine fn_P Fu sc_law (fun ds post h => ?_) fun X F ds post hX hfn hH h => ?_
  · obtain ⟨_, rfl, _⟩ := h
    rfl
  · obtain ⟨ns, rfl, hns, k⟩ := h
    have bx := hX.bx
    have r0 := hX.nmR (i := 0) (x := "script") rfl (by first | exact Or.inl (by decide +kernel) | exact Or.inr (Or.inl (by decide +kernel))); have w0 := hX.nmW (i := 0) (x := "script") rfl (by decide +kernel); have r1 := hX.nmR (i := 1) (x := "pool") rfl (by first | exact Or.inl (by decide +kernel) | exact Or.inr (Or.inl (by decide +kernel))); have w1 := hX.nmW (i := 1) (x := "pool") rfl (by decide +kernel); have r2 := hX.nmR (i := 2) (x := "size") rfl (by first | exact Or.inl (by decide +kernel) | exact Or.inr (Or.inl (by decide +kernel))); have w2 := hX.nmW (i := 2) (x := "size") rfl (by decide +kernel); have r3 := hX.nmR (i := 3) (x := "text") rfl (by first | exact Or.inl (by decide +kernel) | exact Or.inr (Or.inl (by decide +kernel))); have w3 := hX.nmW (i := 3) (x := "text") rfl (by decide +kernel); have r4 := hX.nmR (i := 4) (x := "line") rfl (by first | exact Or.inl (by decide +kernel) | exact Or.inr (Or.inl (by decide +kernel))); have w4 := hX.nmW (i := 4) (x := "line") rfl (by decide +kernel); have r5 := hX.nmR (i := 5) (x := "many") rfl (by first | exact Or.inl (by decide +kernel) | exact Or.inr (Or.inl (by decide +kernel))); have w5 := hX.nmW (i := 5) (x := "many") rfl (by decide +kernel); have r6 := hX.nmR (i := 6) (x := "wrong") rfl (by first | exact Or.inl (by decide +kernel) | exact Or.inr (Or.inl (by decide +kernel))); have w6 := hX.nmW (i := 6) (x := "wrong") rfl (by decide +kernel); have r7 := hX.nmR (i := 7) (x := "other") rfl (by first | exact Or.inl (by decide +kernel) | exact Or.inr (Or.inl (by decide +kernel))); have w7 := hX.nmW (i := 7) (x := "other") rfl (by decide +kernel); have r8 := hX.nmR (i := 8) (x := "due") rfl (by first | exact Or.inl (by decide +kernel) | exact Or.inr (Or.inl (by decide +kernel))); have w8 := hX.nmW (i := 8) (x := "due") rfl (by decide +kernel); have d_law_pool := c_law_pool.at hX (by decide +kernel); have d_law_draw := c_law_draw.at hX (by decide +kernel); have d_law_any_text := c_law_any_text.at hX (by decide +kernel); have d_sealed := c_sealed.at hX (by decide +kernel); have d_law_same := c_law_same.at hX (by decide +kernel); have d_law_sealed := c_law_sealed.at hX (by decide +kernel); have d_law_right := c_law_right.at hX (by decide +kernel); have g_range := hX.glb (x := "range") (by decide +kernel) C.b_range; have d_law_next := c_law_next.at hX (by decide +kernel); have d_law_replaced := c_law_replaced.at hX (by decide +kernel); have d_law_mended := c_law_mended.at hX (by decide +kernel); have d_law_near := c_law_near.at hX (by decide +kernel); have d_law_other := c_law_other.at hX (by decide +kernel); have g_len := hX.glb (x := "len") (by decide +kernel) C.b_len; have d_law_opened := c_law_opened.at hX (by decide +kernel)
    conv => (arg 3; whnf)
    walk_at "go"
    refine ap_pool fun cds hp => ?_
    walk_at "go"
    refine ap_draw hp (lim_of (by decide) (by decide)) fun n0 cds1 n00 n01 hp1 => ?_
    walk_at "go"
    refine jss_ifM (fun s => ∃ (cds : List D) (n : Nat), PoolD cds ∧ n ≤ 90000 ∧ s = mst ns cds n none none none none none) ?_ ?_
    · walk_at "go"
      refine ap_draw hp1 (lim_of (by decide) (by decide)) fun v cds2 v0 v1 hp2 => ?_
      walk_at "go"
      · refine ap_draw hp2 (lim_of (by decide) (by decide)) fun v cds3 v0 v1 hp3 => ?_
        walk_at "go"
        refine ⟨cds3, (1000 + v).toNat, hp3, by omega, ?_⟩
        have : (((1000 + v).toNat : Nat) : Int) = 1000 + v := by omega
        unfold mst
        rw [this]
        rfl
      · refine ⟨cds2, n0.toNat, hp2, by omega, ?_⟩
        have : ((n0.toNat : Nat) : Int) = n0 := by omega
        unfold mst
        rw [this]
        rfl
    rintro s1 ⟨cds2, n, hp2, hn, rfl⟩
    unfold mst
    refine jss_ifM (fun s => ∃ (cds : List D) (n : Nat), PoolD cds ∧ n ≤ 90000 ∧ s = mst ns cds n none none none none none) ?_ ?_
    · walk_at "go"
      refine ap_draw hp2 (lim_of (by decide) (by decide)) fun v cds3 v0 v1 hp3 => ?_
      walk_at "go"
      · exact ⟨cds3, 90000, hp3, by decide, rfl⟩
      · exact ⟨cds3, n, hp3, hn, rfl⟩
    rintro s1 ⟨cds3, n, hp3, hn, rfl⟩
    unfold mst
    walk_at "go"
    refine ap_any hp3 hn fun t cds4 ht tl4 hp4 => ?_
    have tt := zl_len t
    walk_at "go"
    refine ap_sealed ht (by omega) ?_
    have szl : Sg (sl (zl t)) := sl_sg ht
    have lll : (S0 (sl (zl t))).length = t.length + 12 := by rw [zl_len]; show (sl (zl t)).length = _; rw [sl_len]; omega
    walk_at "go"
    refine ap_sealed ht (by omega) ?_
    walk_at "go"
    refine ap_same rfl ?_
    walk_at "go"
    refine ap_right (z := S0 (sl (zl t))) (t := t) (m := 0) szl ht lll (by omega) (by decide) (df_self _) ?_
    walk_at "go"
    refine jss_for bx (fun i s => ∃ (cds : List D) (o5 o6 : Option E), PoolD cds ∧ s = mst ns cds n (some (.d (.str t))) (some (.d (.str (S0 (sl (zl t)))))) o5 o6 none) (ji_range2 g_range ?_ (by intro _ _; rfl) (by intro _ _; rfl)) (by intro _; rfl)
    walk_at "go"
    · refine ⟨_, _, rfl, rfl, by decide, ⟨cds4, none, none, hp4, rfl⟩, ?_, ?_⟩
      · rintro i v s' hi hv ⟨cds5, o5, o6, hp5, rfl⟩
        obtain rfl : v = _ := hv
        have hi : i < 3 := by omega
        have zi : (1 : Int) + i = ((i + 1 : Nat) : Int) := by omega
        rw [zi]
        unfold mst
        refine jg_name w5 ?_
        walk_at "go"
        refine ap_next hp5 fun cds6 hp6 => ?_
        walk_at "go"
        refine ap_repl hp6 (by omega) (by omega) szl (by omega) (by omega) fun y cds7 hy hyl hyd hp7 => ?_
        have yl : y.length = t.length + 12 := by rw [zl_len, hyl, ← zl_len, lll]
        walk_at "go"
        · rename_i hm
          refine ap_right hy ht yl (by omega) (by omega) (hyd (by omega)) ?_
          walk_at "go"
          exact ⟨cds7, _, _, hp7, rfl⟩
        · rename_i hm
          refine ap_lmen hy (by omega) ?_
          have nl : (nearO (zl y)).toList.length ≤ 1 := by cases nearO (zl y) <;> simp
          have nn : ∀ {post : Rt → Prop}, post (.new .lst (lsS (nearO (zl y)).toList)) → R_near [.str y] post := fun q => ap_near hy (by omega) q
          generalize (nearO (zl y)).toList = L at nl nn ⊢
          walk_at "go"
          refine nn ?_
          walk_at "go"
          refine ap_same (sm_ls L (by omega)) ?_
          iterate 4 walk_at "st"
          refine jss_end (s' := mst ns cds7 n (some (.d (.str t))) (some (.d (.str (S0 (sl (zl t)))))) (some (.d (.int ((i + 1 : Nat) : Int)))) (some (.d (.str y))) none) ⟨fun j e h => ?_, rfl, ⟨_, rfl⟩, rfl, Nat.zero_le _⟩ rfl ?_ ⟨cds7, _, _, hp7, rfl⟩
          · rcases j with _ | _ | _ | _ | _ | _ | _ | _ | _ | j
            all_goals first | exact h | cases h
          · show (List.all _ _ && true) = true
            rw [lt_ds]
            rfl
      · rintro s' ⟨cds5, o5, o6, hp5, rfl⟩
        unfold mst
        walk_at "go"
        refine ap_next hp5 fun cds6 hp6 => ?_
        walk_at "go"
        refine ap_other hp6 szl (by omega) (by omega) fun y cds7 hy hyl hp7 => ?_
        have yy := zl_len y
        have yb : y.length ≤ t.length + 13 := by
          rcases hyl with h | ⟨i, h1, h2⟩
          · omega
          · rw [zl_len, h2, List.length_append, List.length_take, List.length_drop]
            rw [zl_len] at h1 lll
            omega
        have ysz : y.length ≤ sizeLine := sz_str (by omega)
        have yop : sl (txt (zl y)) = zl y → y.length ≤ 90012 := fun e => by
          rcases hyl with h | ⟨i, h1, h2⟩
          · omega
          · exact absurd (by rw [h2] at e; exact e) (dup_not ht (at_ := i) (by rw [sl_len]; omega))
        have eop : 12 ≤ (zl y).length → sl (txt (zl y)) = zl y → opL (zl y) = [txt (zl y)] := fun h e => if_pos ⟨h, by rw [← yy]; exact yop e, e⟩
        have eon : ¬ (12 ≤ (zl y).length ∧ sl (txt (zl y)) = zl y) → opL (zl y) = [] := fun h => if_neg fun ⟨h1, _, h3⟩ => h ⟨h1, h3⟩
        have last : n < 1000 → y.length ≤ 90012 := fun h => by omega
        walk_at "go"
        · rename_i h12
          have h12 : 12 ≤ (zl y).length := by omega
          have syt : Sg (zl (S0 (txt (zl y)))) := hy.take _
          have lty := txt_len h12
          have lty2 : (S0 (txt (zl y))).length = (txt (zl y)).length := zl_len (S0 (txt (zl y)))
          rw [cut_txtS]
          refine ap_sealed syt (by omega) ?_
          walk_at "go"
          · rename_i hq
            have hq : sl (txt (zl y)) = zl y := congrArg zl hq
            rw [cut_txtS]
            refine ap_lop hy (by omega) ?_
            rw [eop h12 hq]
            walk_at "go"
            refine ap_same (sm_ls _ (by show _ ≤ 1000; simp)) ?_
            walk_at "go"
            refine ap_lmen hy (last (by omega)) ?_
            have nl : (nearO (zl y)).toList.length ≤ 1 := by cases nearO (zl y) <;> simp
            have nn : ∀ {post : Rt → Prop}, post (.new .lst (lsS (nearO (zl y)).toList)) → R_near [.str y] post := fun q => ap_near hy (by omega) q
            generalize (nearO (zl y)).toList = L at nl nn ⊢
            walk_at "go"
            refine nn ?_
            walk_at "go"
            refine ap_same (sm_ls L (by omega)) ?_
            walk_at "go"
            exact k
          · rename_i hq
            refine ap_lop hy (by omega) ?_
            rw [eon fun h => hq (zl_inj h.2)]
            walk_at "go"
            refine ap_same (sm_ls _ (by show _ ≤ 1000; simp)) ?_
            walk_at "go"
            refine ap_lmen hy (last (by omega)) ?_
            have nl : (nearO (zl y)).toList.length ≤ 1 := by cases nearO (zl y) <;> simp
            have nn : ∀ {post : Rt → Prop}, post (.new .lst (lsS (nearO (zl y)).toList)) → R_near [.str y] post := fun q => ap_near hy (by omega) q
            generalize (nearO (zl y)).toList = L at nl nn ⊢
            walk_at "go"
            refine nn ?_
            walk_at "go"
            refine ap_same (sm_ls L (by omega)) ?_
            walk_at "go"
            exact k
        · rename_i h12
          refine ap_lop hy (by omega) ?_
          rw [eon fun h => by omega]
          walk_at "go"
          refine ap_same (sm_ls _ (by show _ ≤ 1000; simp)) ?_
          walk_at "go"
          refine ap_lmen hy (last (by omega)) ?_
          have nl : (nearO (zl y)).toList.length ≤ 1 := by cases nearO (zl y) <;> simp
          have nn : ∀ {post : Rt → Prop}, post (.new .lst (lsS (nearO (zl y)).toList)) → R_near [.str y] post := fun q => ap_near hy (by omega) q
          generalize (nearO (zl y)).toList = L at nl nn ⊢
          walk_at "go"
          refine nn ?_
          walk_at "go"
          refine ap_same (sm_ls L (by omega)) ?_
          walk_at "go"
          exact k
    · refine ⟨_, _, rfl, rfl, by decide, ⟨cds4, none, none, hp4, rfl⟩, ?_, ?_⟩
      · rintro i v s' hi hv ⟨cds5, o5, o6, hp5, rfl⟩
        obtain rfl : v = _ := hv
        have hi : i < 3 := by omega
        have zi : (1 : Int) + i = ((i + 1 : Nat) : Int) := by omega
        rw [zi]
        unfold mst
        refine jg_name w5 ?_
        walk_at "go"
        refine ap_next hp5 fun cds6 hp6 => ?_
        walk_at "go"
        refine ap_repl hp6 (by omega) (by omega) szl (by omega) (by omega) fun y cds7 hy hyl hyd hp7 => ?_
        have yl : y.length = t.length + 12 := by rw [zl_len, hyl, ← zl_len, lll]
        walk_at "go"
        · refine ap_right hy ht yl (by omega) (by omega) (hyd (by omega)) ?_
          walk_at "go"
          exact ⟨cds7, _, _, hp7, rfl⟩
      · rintro s' ⟨cds5, o5, o6, hp5, rfl⟩
        unfold mst
        walk_at "go"
        refine ap_next hp5 fun cds6 hp6 => ?_
        walk_at "go"
        refine ap_other hp6 szl (by omega) (by omega) fun y cds7 hy hyl hp7 => ?_
        have yy := zl_len y
        have yb : y.length ≤ t.length + 13 := by
          rcases hyl with h | ⟨i, h1, h2⟩
          · omega
          · rw [zl_len, h2, List.length_append, List.length_take, List.length_drop]
            rw [zl_len] at h1 lll
            omega
        have ysz : y.length ≤ sizeLine := sz_str (by omega)
        have yop : sl (txt (zl y)) = zl y → y.length ≤ 90012 := fun e => by
          rcases hyl with h | ⟨i, h1, h2⟩
          · omega
          · exact absurd (by rw [h2] at e; exact e) (dup_not ht (at_ := i) (by rw [sl_len]; omega))
        have eop : 12 ≤ (zl y).length → sl (txt (zl y)) = zl y → opL (zl y) = [txt (zl y)] := fun h e => if_pos ⟨h, by rw [← yy]; exact yop e, e⟩
        have eon : ¬ (12 ≤ (zl y).length ∧ sl (txt (zl y)) = zl y) → opL (zl y) = [] := fun h => if_neg fun ⟨h1, _, h3⟩ => h ⟨h1, h3⟩
        have last : n < 1000 → y.length ≤ 90012 := fun h => by omega
        walk_at "go"
        · rename_i h12
          have h12 : 12 ≤ (zl y).length := by omega
          have syt : Sg (zl (S0 (txt (zl y)))) := hy.take _
          have lty := txt_len h12
          have lty2 : (S0 (txt (zl y))).length = (txt (zl y)).length := zl_len (S0 (txt (zl y)))
          rw [cut_txtS]
          refine ap_sealed syt (by omega) ?_
          walk_at "go"
          · rename_i hq
            have hq : sl (txt (zl y)) = zl y := congrArg zl hq
            rw [cut_txtS]
            refine ap_lop hy (by omega) ?_
            rw [eop h12 hq]
            walk_at "go"
            refine ap_same (sm_ls _ (by show _ ≤ 1000; simp)) ?_
            walk_at "go"
            exact k
          · rename_i hq
            refine ap_lop hy (by omega) ?_
            rw [eon fun h => hq (zl_inj h.2)]
            walk_at "go"
            refine ap_same (sm_ls _ (by show _ ≤ 1000; simp)) ?_
            walk_at "go"
            exact k
        · rename_i h12
          refine ap_lop hy (by omega) ?_
          rw [eon fun h => by omega]
          walk_at "go"
          refine ap_same (sm_ls _ (by show _ ≤ 1000; simp)) ?_
          walk_at "go"
          exact k
end
end
set_option pp.maxSteps 260
open PySem PySem.Spec PyProof.Rows L2 DL
theorem fn_vac {P : Program} {w : World} {K : PySem.W.Frag} {mg : Str → Option Value} {base : Heap} {k : Nat} {f : Addr} {fd : FuncData} {ps : List Str} {R : RP} (h : ∀ ds post, R ds post → False) : FnOk P w K mg base CX0 k f fd ps (spP K R) :=
  ⟨fun vs H Q E ⟨_, _, _, _, z⟩ => (h _ _ z).elim, fun A outer s H args us vs Q E _ _ _ _ ⟨_, _, _, _, z⟩ => (h _ _ z).elim⟩
theorem law_sp {K : PySem.W.Frag} {H : Hp} {a : Addr} {ns : List Int} (hS : SqL K H a (ns.map V.int)) (hl : ns.length ≤ 63) : spP K R_law [.ref a] H (fun v _ => v = .bl true) fun _ _ _ => False :=
  ⟨H, [lsI ns], Same.refl _, .cons (.nd (k := .lst) hS (reps_ints ns)) .nil, ns, rfl, hl, fun v G' H' _ _ _ _ r => by cases r; rfl⟩
theorem all_mk {l : PySem.W.OpenLaw} {w : World} {K : PySem.W.Frag} {h : Heap} {mg : Str → Option Value} {fa f1 f2 f3 f4 f5 f6 f7 f8 f9 f10 f11 f12 f13 f14 f15 f16 f17 f18 f19 f20 f21 f22 f23 f24 f25 f26 f27 f28 f29 f30 : Addr} (X : K.In h) (G : h.Ns mainGlobals mg) (hfa : mg "law" = some (.ref fa))
    {C_BadText C_NetworthError : Addr}
    {od1 an1 : Option Addr} {sl1 : Array (Option Value)} {oc1 kV1 dc1 pm1 cd1 ct1 : Value}
    {od2 an2 : Option Addr} {sl2 : Array (Option Value)} {oc2 kV2 dc2 pm2 cd2 ct2 : Value}
    {od3 an3 : Option Addr} {sl3 : Array (Option Value)} {oc3 kV3 dc3 pm3 cd3 ct3 : Value}
    {od4 an4 : Option Addr} {sl4 : Array (Option Value)} {oc4 kV4 dc4 pm4 cd4 ct4 : Value}
    {od5 an5 : Option Addr} {sl5 : Array (Option Value)} {oc5 kV5 dc5 pm5 cd5 ct5 : Value}
    {od6 an6 : Option Addr} {sl6 : Array (Option Value)} {oc6 kV6 dc6 pm6 cd6 ct6 : Value}
    {od7 an7 : Option Addr} {sl7 : Array (Option Value)} {oc7 kV7 dc7 pm7 cd7 ct7 : Value}
    {od8 an8 : Option Addr} {sl8 : Array (Option Value)} {oc8 kV8 dc8 pm8 cd8 ct8 : Value}
    {od9 an9 : Option Addr} {sl9 : Array (Option Value)} {oc9 kV9 dc9 pm9 cd9 ct9 : Value}
    {od10 an10 : Option Addr} {sl10 : Array (Option Value)} {oc10 kV10 dc10 pm10 cd10 ct10 : Value}
    {od11 an11 : Option Addr} {sl11 : Array (Option Value)} {oc11 kV11 dc11 pm11 cd11 ct11 : Value}
    {od12 an12 : Option Addr} {sl12 : Array (Option Value)} {oc12 kV12 dc12 pm12 cd12 ct12 : Value}
    {od13 an13 : Option Addr} {sl13 : Array (Option Value)} {oc13 kV13 dc13 pm13 cd13 ct13 : Value}
    {od14 an14 : Option Addr} {sl14 : Array (Option Value)} {oc14 kV14 dc14 pm14 cd14 ct14 : Value}
    {od15 an15 : Option Addr} {sl15 : Array (Option Value)} {oc15 kV15 dc15 pm15 cd15 ct15 : Value}
    {od16 an16 : Option Addr} {sl16 : Array (Option Value)} {oc16 kV16 dc16 pm16 cd16 ct16 : Value}
    {od17 an17 : Option Addr} {sl17 : Array (Option Value)} {oc17 kV17 dc17 pm17 cd17 ct17 : Value}
    {od18 an18 : Option Addr} {sl18 : Array (Option Value)} {oc18 kV18 dc18 pm18 cd18 ct18 : Value}
    {od19 an19 : Option Addr} {sl19 : Array (Option Value)} {oc19 kV19 dc19 pm19 cd19 ct19 : Value}
    {od20 an20 : Option Addr} {sl20 : Array (Option Value)} {oc20 kV20 dc20 pm20 cd20 ct20 : Value}
    {od21 an21 : Option Addr} {sl21 : Array (Option Value)} {oc21 kV21 dc21 pm21 cd21 ct21 : Value}
    {od22 an22 : Option Addr} {sl22 : Array (Option Value)} {oc22 kV22 dc22 pm22 cd22 ct22 : Value}
    {od23 an23 : Option Addr} {sl23 : Array (Option Value)} {oc23 kV23 dc23 pm23 cd23 ct23 : Value}
    {od24 an24 : Option Addr} {sl24 : Array (Option Value)} {oc24 kV24 dc24 pm24 cd24 ct24 : Value}
    {od25 an25 : Option Addr} {sl25 : Array (Option Value)} {oc25 kV25 dc25 pm25 cd25 ct25 : Value}
    {od26 an26 : Option Addr} {sl26 : Array (Option Value)} {oc26 kV26 dc26 pm26 cd26 ct26 : Value}
    {od27 an27 : Option Addr} {sl27 : Array (Option Value)} {oc27 kV27 dc27 pm27 cd27 ct27 : Value}
    {od28 an28 : Option Addr} {sl28 : Array (Option Value)} {oc28 kV28 dc28 pm28 cd28 ct28 : Value}
    {od29 an29 : Option Addr} {sl29 : Array (Option Value)} {oc29 kV29 dc29 pm29 cd29 ct29 : Value}
    {od30 an30 : Option Addr} {sl30 : Array (Option Value)} {oc30 kV30 dc30 pm30 cd30 ct30 : Value}
    {tS : Tok}
    {tM : Tok}
    {tL : Tok}
    {tT : Tok}
    (aC_BadText : PySem.W.nsIn K mainGlobals "BadText" = some (some (.ref C_BadText)))
    (aC_NetworthError : PySem.W.nsIn K mainGlobals "NetworthError" = some (some (.ref C_NetworthError)))
    (xq_BadText : PySem.W.excIn K C_BadText [.type "ValueError", .type "Exception", .type "BaseException", .type "object"] "ValueError.__new__" = true)
    (kC_BadText : PySem.W.keepIn K (.ref C_BadText) = true)
    (sb_BadText : PySem.W.subIn K (.ref C_BadText) (.type "BaseException") = some true)
    (ty_BadText : PySem.W.typeIn K (.ref C_BadText) = some (.type "type"))
    (xm_BadText : PySem.W.exmOne K (.ref C_BadText) (.ref C_BadText) = some true)
    (kt_BadText : PySem.W.kitCls K (.ref C_BadText) (.ref C_NetworthError) = some true)
    (kv_BadText : PySem.W.kitCls K (.ref C_BadText) (.type "ValueError") = some true)
    (ne_BadText : ((Value.ref C_BadText) == (Value.ref C_NetworthError)) = false)
    (a1 : PySem.W.nsIn K mainGlobals "is_sign" = some (some (.ref f1))) (l1 : K.lookup f1 = some ⟨oc1, od1, .func (PySem.W.fnOf "is_sign" "is_sign" (defArgs s_is_sign) (defBody s_is_sign) (defScope s_is_sign) .none kV1 dc1 pm1 an1 cd1 ct1), sl1⟩) (c1 : PySem.W.codeIn K cd1 "is_sign" = true) (k1 : PySem.W.keepIn K (.ref f1) = true)
    (a2 : PySem.W.nsIn K mainGlobals "number_of" = some (some (.ref f2))) (l2 : K.lookup f2 = some ⟨oc2, od2, .func (PySem.W.fnOf "number_of" "number_of" (defArgs s_number_of) (defBody s_number_of) (defScope s_number_of) .none kV2 dc2 pm2 an2 cd2 ct2), sl2⟩) (c2 : PySem.W.codeIn K cd2 "number_of" = true) (k2 : PySem.W.keepIn K (.ref f2) = true)
    (a3 : PySem.W.nsIn K mainGlobals "sums_of" = some (some (.ref f3))) (l3 : K.lookup f3 = some ⟨oc3, od3, .func (PySem.W.fnOf "sums_of" "sums_of" (defArgs s_sums_of) (defBody s_sums_of) (defScope s_sums_of) .none kV3 dc3 pm3 an3 cd3 ct3), sl3⟩) (c3 : PySem.W.codeIn K cd3 "sums_of" = true) (k3 : PySem.W.keepIn K (.ref f3) = true)
    (a4 : PySem.W.nsIn K mainGlobals "sealed" = some (some (.ref f4))) (l4 : K.lookup f4 = some ⟨oc4, od4, .func (PySem.W.fnOf "sealed" "sealed" (defArgs s_sealed) (defBody s_sealed) (defScope s_sealed) .none kV4 dc4 pm4 an4 cd4 ct4), sl4⟩) (c4 : PySem.W.codeIn K cd4 "sealed" = true) (k4 : PySem.W.keepIn K (.ref f4) = true)
    (a5 : PySem.W.nsIn K mainGlobals "is_text" = some (some (.ref f5))) (l5 : K.lookup f5 = some ⟨oc5, od5, .func (PySem.W.fnOf "is_text" "is_text" (defArgs s_is_text) (defBody s_is_text) (defScope s_is_text) .none kV5 dc5 pm5 an5 cd5 ct5), sl5⟩) (c5 : PySem.W.codeIn K cd5 "is_text" = true) (k5 : PySem.W.keepIn K (.ref f5) = true)
    (a6 : PySem.W.nsIn K mainGlobals "opened" = some (some (.ref f6))) (l6 : K.lookup f6 = some ⟨oc6, od6, .func (PySem.W.fnOf "opened" "opened" (defArgs s_opened) (defBody s_opened) (defScope s_opened) .none kV6 dc6 pm6 an6 cd6 ct6), sl6⟩) (c6 : PySem.W.codeIn K cd6 "opened" = true) (k6 : PySem.W.keepIn K (.ref f6) = true)
    (a7 : PySem.W.nsIn K mainGlobals "differing" = some (some (.ref f7))) (l7 : K.lookup f7 = some ⟨oc7, od7, .func (PySem.W.fnOf "differing" "differing" (defArgs s_differing) (defBody s_differing) (defScope s_differing) .none kV7 dc7 pm7 an7 cd7 ct7), sl7⟩) (c7 : PySem.W.codeIn K cd7 "differing" = true) (k7 : PySem.W.keepIn K (.ref f7) = true)
    (a8 : PySem.W.nsIn K mainGlobals "read_sum" = some (some (.ref f8))) (l8 : K.lookup f8 = some ⟨oc8, od8, .func (PySem.W.fnOf "read_sum" "read_sum" (defArgs s_read_sum) (defBody s_read_sum) (defScope s_read_sum) .none kV8 dc8 pm8 an8 cd8 ct8), sl8⟩) (c8 : PySem.W.codeIn K cd8 "read_sum" = true) (k8 : PySem.W.keepIn K (.ref f8) = true)
    (a9 : PySem.W.nsIn K mainGlobals "inverse" = some (some (.ref f9))) (l9 : K.lookup f9 = some ⟨oc9, od9, .func (PySem.W.fnOf "inverse" "inverse" (defArgs s_inverse) (defBody s_inverse) (defScope s_inverse) .none kV9 dc9 pm9 an9 cd9 ct9), sl9⟩) (c9 : PySem.W.codeIn K cd9 "inverse" = true) (k9 : PySem.W.keepIn K (.ref f9) = true)
    (a10 : PySem.W.nsIn K mainGlobals "with_one_mended" = some (some (.ref f10))) (l10 : K.lookup f10 = some ⟨oc10, od10, .func (PySem.W.fnOf "with_one_mended" "with_one_mended" (defArgs s_with_one_mended) (defBody s_with_one_mended) (defScope s_with_one_mended) .none kV10 dc10 pm10 an10 cd10 ct10), sl10⟩) (c10 : PySem.W.codeIn K cd10 "with_one_mended" = true) (k10 : PySem.W.keepIn K (.ref f10) = true)
    (a11 : PySem.W.nsIn K mainGlobals "mended" = some (some (.ref f11))) (l11 : K.lookup f11 = some ⟨oc11, od11, .func (PySem.W.fnOf "mended" "mended" (defArgs s_mended) (defBody s_mended) (defScope s_mended) .none kV11 dc11 pm11 an11 cd11 ct11), sl11⟩) (c11 : PySem.W.codeIn K cd11 "mended" = true) (k11 : PySem.W.keepIn K (.ref f11) = true)
    (a12 : PySem.W.nsIn K mainGlobals "_law_mixed" = some (some (.ref f12))) (l12 : K.lookup f12 = some ⟨oc12, od12, .func (PySem.W.fnOf "_law_mixed" "_law_mixed" (defArgs s_law_mixed) (defBody s_law_mixed) (defScope s_law_mixed) .none kV12 dc12 pm12 an12 cd12 ct12), sl12⟩) (c12 : PySem.W.codeIn K cd12 "_law_mixed" = true) (k12 : PySem.W.keepIn K (.ref f12) = true)
    (a13 : PySem.W.nsIn K mainGlobals "_law_rest" = some (some (.ref f13))) (l13 : K.lookup f13 = some ⟨oc13, od13, .func (PySem.W.fnOf "_law_rest" "_law_rest" (defArgs s_law_rest) (defBody s_law_rest) (defScope s_law_rest) .none kV13 dc13 pm13 an13 cd13 ct13), sl13⟩) (c13 : PySem.W.codeIn K cd13 "_law_rest" = true) (k13 : PySem.W.keepIn K (.ref f13) = true)
    (a14 : PySem.W.nsIn K mainGlobals "_law_pool" = some (some (.ref f14))) (l14 : K.lookup f14 = some ⟨oc14, od14, .func (PySem.W.fnOf "_law_pool" "_law_pool" (defArgs s_law_pool) (defBody s_law_pool) (defScope s_law_pool) .none kV14 dc14 pm14 an14 cd14 ct14), sl14⟩) (c14 : PySem.W.codeIn K cd14 "_law_pool" = true) (k14 : PySem.W.keepIn K (.ref f14) = true)
    (a15 : PySem.W.nsIn K mainGlobals "_law_next" = some (some (.ref f15))) (l15 : K.lookup f15 = some ⟨oc15, od15, .func (PySem.W.fnOf "_law_next" "_law_next" (defArgs s_law_next) (defBody s_law_next) (defScope s_law_next) .none kV15 dc15 pm15 an15 cd15 ct15), sl15⟩) (c15 : PySem.W.codeIn K cd15 "_law_next" = true) (k15 : PySem.W.keepIn K (.ref f15) = true)
    (a16 : PySem.W.nsIn K mainGlobals "_law_draw" = some (some (.ref f16))) (l16 : K.lookup f16 = some ⟨oc16, od16, .func (PySem.W.fnOf "_law_draw" "_law_draw" (defArgs s_law_draw) (defBody s_law_draw) (defScope s_law_draw) .none kV16 dc16 pm16 an16 cd16 ct16), sl16⟩) (c16 : PySem.W.codeIn K cd16 "_law_draw" = true) (k16 : PySem.W.keepIn K (.ref f16) = true)
    (a17 : PySem.W.nsIn K mainGlobals "_law_same" = some (some (.ref f17))) (l17 : K.lookup f17 = some ⟨oc17, od17, .func (PySem.W.fnOf "_law_same" "_law_same" (defArgs s_law_same) (defBody s_law_same) (defScope s_law_same) .none kV17 dc17 pm17 an17 cd17 ct17), sl17⟩) (c17 : PySem.W.codeIn K cd17 "_law_same" = true) (k17 : PySem.W.keepIn K (.ref f17) = true)
    (a18 : PySem.W.nsIn K mainGlobals "_law_signs" = some (some (.ref f18))) (l18 : K.lookup f18 = some ⟨oc18, od18, .func (PySem.W.fnOf "_law_signs" "_law_signs" (defArgs s_law_signs) (defBody s_law_signs) (defScope s_law_signs) .none kV18 dc18 pm18 an18 cd18 ct18), sl18⟩) (c18 : PySem.W.codeIn K cd18 "_law_signs" = true) (k18 : PySem.W.keepIn K (.ref f18) = true)
    (a19 : PySem.W.nsIn K mainGlobals "_law_numbers" = some (some (.ref f19))) (l19 : K.lookup f19 = some ⟨oc19, od19, .func (PySem.W.fnOf "_law_numbers" "_law_numbers" (defArgs s_law_numbers) (defBody s_law_numbers) (defScope s_law_numbers) .none kV19 dc19 pm19 an19 cd19 ct19), sl19⟩) (c19 : PySem.W.codeIn K cd19 "_law_numbers" = true) (k19 : PySem.W.keepIn K (.ref f19) = true)
    (a20 : PySem.W.nsIn K mainGlobals "_law_sealed" = some (some (.ref f20))) (l20 : K.lookup f20 = some ⟨oc20, od20, .func (PySem.W.fnOf "_law_sealed" "_law_sealed" (defArgs s_law_sealed) (defBody s_law_sealed) (defScope s_law_sealed) .none kV20 dc20 pm20 an20 cd20 ct20), sl20⟩) (c20 : PySem.W.codeIn K cd20 "_law_sealed" = true) (k20 : PySem.W.keepIn K (.ref f20) = true)
    (a21 : PySem.W.nsIn K mainGlobals "_law_differing" = some (some (.ref f21))) (l21 : K.lookup f21 = some ⟨oc21, od21, .func (PySem.W.fnOf "_law_differing" "_law_differing" (defArgs s_law_differing) (defBody s_law_differing) (defScope s_law_differing) .none kV21 dc21 pm21 an21 cd21 ct21), sl21⟩) (c21 : PySem.W.codeIn K cd21 "_law_differing" = true) (k21 : PySem.W.keepIn K (.ref f21) = true)
    (a22 : PySem.W.nsIn K mainGlobals "_law_with_sums" = some (some (.ref f22))) (l22 : K.lookup f22 = some ⟨oc22, od22, .func (PySem.W.fnOf "_law_with_sums" "_law_with_sums" (defArgs s_law_with_sums) (defBody s_law_with_sums) (defScope s_law_with_sums) .none kV22 dc22 pm22 an22 cd22 ct22), sl22⟩) (c22 : PySem.W.codeIn K cd22 "_law_with_sums" = true) (k22 : PySem.W.keepIn K (.ref f22) = true)
    (a23 : PySem.W.nsIn K mainGlobals "_law_near" = some (some (.ref f23))) (l23 : K.lookup f23 = some ⟨oc23, od23, .func (PySem.W.fnOf "_law_near" "_law_near" (defArgs s_law_near) (defBody s_law_near) (defScope s_law_near) .none kV23 dc23 pm23 an23 cd23 ct23), sl23⟩) (c23 : PySem.W.codeIn K cd23 "_law_near" = true) (k23 : PySem.W.keepIn K (.ref f23) = true)
    (a24 : PySem.W.nsIn K mainGlobals "_law_any_text" = some (some (.ref f24))) (l24 : K.lookup f24 = some ⟨oc24, od24, .func (PySem.W.fnOf "_law_any_text" "_law_any_text" (defArgs s_law_any_text) (defBody s_law_any_text) (defScope s_law_any_text) .none kV24 dc24 pm24 an24 cd24 ct24), sl24⟩) (c24 : PySem.W.codeIn K cd24 "_law_any_text" = true) (k24 : PySem.W.keepIn K (.ref f24) = true)
    (a25 : PySem.W.nsIn K mainGlobals "_law_replaced" = some (some (.ref f25))) (l25 : K.lookup f25 = some ⟨oc25, od25, .func (PySem.W.fnOf "_law_replaced" "_law_replaced" (defArgs s_law_replaced) (defBody s_law_replaced) (defScope s_law_replaced) .none kV25 dc25 pm25 an25 cd25 ct25), sl25⟩) (c25 : PySem.W.codeIn K cd25 "_law_replaced" = true) (k25 : PySem.W.keepIn K (.ref f25) = true)
    (a26 : PySem.W.nsIn K mainGlobals "_law_opened" = some (some (.ref f26))) (l26 : K.lookup f26 = some ⟨oc26, od26, .func (PySem.W.fnOf "_law_opened" "_law_opened" (defArgs s_law_opened) (defBody s_law_opened) (defScope s_law_opened) .none kV26 dc26 pm26 an26 cd26 ct26), sl26⟩) (c26 : PySem.W.codeIn K cd26 "_law_opened" = true) (k26 : PySem.W.keepIn K (.ref f26) = true)
    (a27 : PySem.W.nsIn K mainGlobals "_law_mended" = some (some (.ref f27))) (l27 : K.lookup f27 = some ⟨oc27, od27, .func (PySem.W.fnOf "_law_mended" "_law_mended" (defArgs s_law_mended) (defBody s_law_mended) (defScope s_law_mended) .none kV27 dc27 pm27 an27 cd27 ct27), sl27⟩) (c27 : PySem.W.codeIn K cd27 "_law_mended" = true) (k27 : PySem.W.keepIn K (.ref f27) = true)
    (a28 : PySem.W.nsIn K mainGlobals "_law_right" = some (some (.ref f28))) (l28 : K.lookup f28 = some ⟨oc28, od28, .func (PySem.W.fnOf "_law_right" "_law_right" (defArgs s_law_right) (defBody s_law_right) (defScope s_law_right) .none kV28 dc28 pm28 an28 cd28 ct28), sl28⟩) (c28 : PySem.W.codeIn K cd28 "_law_right" = true) (k28 : PySem.W.keepIn K (.ref f28) = true)
    (a29 : PySem.W.nsIn K mainGlobals "_law_other" = some (some (.ref f29))) (l29 : K.lookup f29 = some ⟨oc29, od29, .func (PySem.W.fnOf "_law_other" "_law_other" (defArgs s_law_other) (defBody s_law_other) (defScope s_law_other) .none kV29 dc29 pm29 an29 cd29 ct29), sl29⟩) (c29 : PySem.W.codeIn K cd29 "_law_other" = true) (k29 : PySem.W.keepIn K (.ref f29) = true)
    (a30 : PySem.W.nsIn K mainGlobals "law" = some (some (.ref f30))) (l30 : K.lookup f30 = some ⟨oc30, od30, .func (PySem.W.fnOf "law" "law" (defArgs s_law) (defBody s_law) (defScope s_law) .none kV30 dc30 pm30 an30 cd30 ct30), sl30⟩) (c30 : PySem.W.codeIn K cd30 "law" = true) (k30 : PySem.W.keepIn K (.ref f30) = true)
    (z_SIGNS : PySem.W.nsIn K mainGlobals "SIGNS" = some (some (.str " !\"#$&'()*+,-./0123456789:;<=>?@ABCDEFGHIJKLMNOPQRSTUVWXYZ[\\]^_`abcdefghijklmnopqrstuvwxyz{|}~" tS)))
    (z_MODULUS : PySem.W.nsIn K mainGlobals "MODULUS" = some (some (.int 99991 tM)))
    (z_LENGTH_MOST : PySem.W.nsIn K mainGlobals "LENGTH_MOST" = some (some (.int 90000 tL)))
    (z_TAIL : PySem.W.nsIn K mainGlobals "TAIL" = some (some (.int 12 tT)))
    (b_int : PySem.W.nsIn K mainGlobals "int" = some none)
    (b_len : PySem.W.nsIn K mainGlobals "len" = some none)
    (b_range : PySem.W.nsIn K mainGlobals "range" = some none)
    (b_str : PySem.W.nsIn K mainGlobals "str" = some none)
    (b_ord : PySem.W.nsIn K mainGlobals "ord" = some none)
    (b_min : PySem.W.nsIn K mainGlobals "min" = some none)
    (b_all : PySem.W.nsIn K mainGlobals "all" = some none)
    (b_isinstance : PySem.W.nsIn K mainGlobals "isinstance" = some none)
    (b_tuple : PySem.W.nsIn K mainGlobals "tuple" = some none)
    (b_dict : PySem.W.nsIn K mainGlobals "dict" = some none)
    (b_list : PySem.W.nsIn K mainGlobals "list" = some none)
    (b_bool : PySem.W.nsIn K mainGlobals "bool" = some none)
    (b_enumerate : PySem.W.nsIn K mainGlobals "enumerate" = some none)
    (b_ValueError : PySem.W.nsIn K mainGlobals "ValueError" = some none)
    : ∃ fd : FuncData, (∀ (s : Shared) (v : Value), BindsTo s fd ⟨[v], []⟩ [("script", v)]) ∧ ∀ base : Heap, K.In base → base.Ns mainGlobals mg → FnOk l.prog w K mg base CX0 8 fa fd ["script"] (spP K R_law) := by
  have e := hfa.symm.trans (PySem.W.mg_of X G a30)
  cases e
  have F_is_sign := fun_mk (st := s_is_sign) l1 c1 k1
  have b_is_sign := F_is_sign.binds (ps := ["char"]) fun _ _ _ _ _ _ us hl => match us, hl with | [_], _ => rfl
  have F_number_of := fun_mk (st := s_number_of) l2 c2 k2
  have b_number_of := F_number_of.binds (ps := ["char"]) fun _ _ _ _ _ _ us hl => match us, hl with | [_], _ => rfl
  have F_sums_of := fun_mk (st := s_sums_of) l3 c3 k3
  have b_sums_of := F_sums_of.binds (ps := ["text"]) fun _ _ _ _ _ _ us hl => match us, hl with | [_], _ => rfl
  have F_sealed := fun_mk (st := s_sealed) l4 c4 k4
  have b_sealed := F_sealed.binds (ps := ["text"]) fun _ _ _ _ _ _ us hl => match us, hl with | [_], _ => rfl
  have F_is_text := fun_mk (st := s_is_text) l5 c5 k5
  have b_is_text := F_is_text.binds (ps := ["text"]) fun _ _ _ _ _ _ us hl => match us, hl with | [_], _ => rfl
  have F_opened := fun_mk (st := s_opened) l6 c6 k6
  have b_opened := F_opened.binds (ps := ["line"]) fun _ _ _ _ _ _ us hl => match us, hl with | [_], _ => rfl
  have F_differing := fun_mk (st := s_differing) l7 c7 k7
  have b_differing := F_differing.binds (ps := ["one", "other"]) fun _ _ _ _ _ _ us hl => match us, hl with | [_, _], _ => rfl
  have F_read_sum := fun_mk (st := s_read_sum) l8 c8 k8
  have b_read_sum := F_read_sum.binds (ps := ["word"]) fun _ _ _ _ _ _ us hl => match us, hl with | [_], _ => rfl
  have F_inverse := fun_mk (st := s_inverse) l9 c9 k9
  have b_inverse := F_inverse.binds (ps := ["number"]) fun _ _ _ _ _ _ us hl => match us, hl with | [_], _ => rfl
  have F_with_one_mended := fun_mk (st := s_with_one_mended) l10 c10 k10
  have b_with_one_mended := F_with_one_mended.binds (ps := ["text", "first", "second"]) fun _ _ _ _ _ _ us hl => match us, hl with | [_, _, _], _ => rfl
  have F_mended := fun_mk (st := s_mended) l11 c11 k11
  have b_mended := F_mended.binds (ps := ["line"]) fun _ _ _ _ _ _ us hl => match us, hl with | [_], _ => rfl
  have F_law_mixed := fun_mk (st := s_law_mixed) l12 c12 k12
  have b_law_mixed := F_law_mixed.binds (ps := ["number", "place"]) fun _ _ _ _ _ _ us hl => match us, hl with | [_, _], _ => rfl
  have F_law_rest := fun_mk (st := s_law_rest) l13 c13 k13
  have b_law_rest := F_law_rest.binds (ps := ["script", "place", "fills"]) fun _ _ _ _ _ _ us hl => match us, hl with | [_, _, _], _ => rfl
  have F_law_pool := fun_mk (st := s_law_pool) l14 c14 k14
  have b_law_pool := F_law_pool.binds (ps := ["script"]) fun _ _ _ _ _ _ us hl => match us, hl with | [_], _ => rfl
  have F_law_next := fun_mk (st := s_law_next) l15 c15 k15
  have b_law_next := F_law_next.binds (ps := ["pool"]) fun _ _ _ _ _ _ us hl => match us, hl with | [_], _ => rfl
  have F_law_draw := fun_mk (st := s_law_draw) l16 c16 k16
  have b_law_draw := F_law_draw.binds (ps := ["pool", "limit"]) fun _ _ _ _ _ _ us hl => match us, hl with | [_, _], _ => rfl
  have F_law_same := fun_mk (st := s_law_same) l17 c17 k17
  have b_law_same := F_law_same.binds (ps := ["answer", "due"]) fun _ _ _ _ _ _ us hl => match us, hl with | [_, _], _ => rfl
  have F_law_signs := fun_mk (st := s_law_signs) l18 c18 k18
  have b_law_signs := F_law_signs.binds (ps := []) fun _ _ _ _ _ _ us hl => match us, hl with | [], _ => rfl
  have F_law_numbers := fun_mk (st := s_law_numbers) l19 c19 k19
  have b_law_numbers := F_law_numbers.binds (ps := ["text"]) fun _ _ _ _ _ _ us hl => match us, hl with | [_], _ => rfl
  have F_law_sealed := fun_mk (st := s_law_sealed) l20 c20 k20
  have b_law_sealed := F_law_sealed.binds (ps := ["text"]) fun _ _ _ _ _ _ us hl => match us, hl with | [_], _ => rfl
  have F_law_differing := fun_mk (st := s_law_differing) l21 c21 k21
  have b_law_differing := F_law_differing.binds (ps := ["one", "other"]) fun _ _ _ _ _ _ us hl => match us, hl with | [_, _], _ => rfl
  have F_law_with_sums := fun_mk (st := s_law_with_sums) l22 c22 k22
  have b_law_with_sums := F_law_with_sums.binds (ps := ["text", "first", "second"]) fun _ _ _ _ _ _ us hl => match us, hl with | [_, _, _], _ => rfl
  have F_law_near := fun_mk (st := s_law_near) l23 c23 k23
  have b_law_near := F_law_near.binds (ps := ["line"]) fun _ _ _ _ _ _ us hl => match us, hl with | [_], _ => rfl
  have F_law_any_text := fun_mk (st := s_law_any_text) l24 c24 k24
  have b_law_any_text := F_law_any_text.binds (ps := ["pool", "size"]) fun _ _ _ _ _ _ us hl => match us, hl with | [_, _], _ => rfl
  have F_law_replaced := fun_mk (st := s_law_replaced) l25 c25 k25
  have b_law_replaced := F_law_replaced.binds (ps := ["pool", "line", "many"]) fun _ _ _ _ _ _ us hl => match us, hl with | [_, _, _], _ => rfl
  have F_law_opened := fun_mk (st := s_law_opened) l26 c26 k26
  have b_law_opened := F_law_opened.binds (ps := ["line"]) fun _ _ _ _ _ _ us hl => match us, hl with | [_], _ => rfl
  have F_law_mended := fun_mk (st := s_law_mended) l27 c27 k27
  have b_law_mended := F_law_mended.binds (ps := ["line"]) fun _ _ _ _ _ _ us hl => match us, hl with | [_], _ => rfl
  have F_law_right := fun_mk (st := s_law_right) l28 c28 k28
  have b_law_right := F_law_right.binds (ps := ["line", "text", "many"]) fun _ _ _ _ _ _ us hl => match us, hl with | [_, _, _], _ => rfl
  have F_law_other := fun_mk (st := s_law_other) l29 c29 k29
  have b_law_other := F_law_other.binds (ps := ["pool", "line"]) fun _ _ _ _ _ _ us hl => match us, hl with | [_, _], _ => rfl
  have F_law := fun_mk (st := s_law) l30 c30 k30
  have b_law := F_law.binds (ps := ["script"]) fun _ _ _ _ _ _ us hl => match us, hl with | [_], _ => rfl
  have C : Bs4 mg := { b_int := PySem.W.mg_none_of X G b_int, b_len := PySem.W.mg_none_of X G b_len, b_range := PySem.W.mg_none_of X G b_range, b_str := PySem.W.mg_none_of X G b_str, b_ord := PySem.W.mg_none_of X G b_ord, b_min := PySem.W.mg_none_of X G b_min, b_all := PySem.W.mg_none_of X G b_all, b_isinstance := PySem.W.mg_none_of X G b_isinstance, b_tuple := PySem.W.mg_none_of X G b_tuple, b_dict := PySem.W.mg_none_of X G b_dict, b_list := PySem.W.mg_none_of X G b_list, b_bool := PySem.W.mg_none_of X G b_bool, b_enumerate := PySem.W.mg_none_of X G b_enumerate, b_ValueError := PySem.W.mg_none_of X G b_ValueError, k_SIGNS := ⟨_, PySem.W.mg_of X G z_SIGNS, ⟨_, rfl⟩⟩, k_MODULUS := ⟨_, PySem.W.mg_of X G z_MODULUS, ⟨_, rfl⟩⟩, k_LENGTH_MOST := ⟨_, PySem.W.mg_of X G z_LENGTH_MOST, ⟨_, rfl⟩⟩, k_TAIL := ⟨_, PySem.W.mg_of X G z_TAIL, ⟨_, rfl⟩⟩ }
  refine ⟨PySem.W.fnOf "law" "law" (defArgs s_law) (defBody s_law) (defScope s_law) .none kV30 dc30 pm30 an30 cd30 ct30, fun s v => .of_eq rfl, fun base _ _ => ?_⟩
  have X0 := X
  have TB : Btx K mg C_BadText := ⟨⟨xq_BadText, kC_BadText, sb_BadText, ty_BadText⟩, PySem.W.mg_of X G aC_BadText⟩
  have TY : Bty K mg C_BadText C_NetworthError := ⟨TB, xm_BadText, PySem.W.mg_of X G aC_NetworthError, kt_BadText, ne_BadText, kv_BadText⟩
  have c_is_sign : CaP l.prog w K mg base "is_sign" 1 R_issign := ⟨mo_issign, _, _, _, PySem.W.mg_of X G a1, k1, b_is_sign, ok_issign C F_is_sign⟩
  have c_number_of : CaP l.prog w K mg base "number_of" 2 R_numof := ⟨mo_numof, _, _, _, PySem.W.mg_of X G a2, k2, b_number_of, ok_numof C c_is_sign F_number_of⟩
  have c_sums_of : CaP l.prog w K mg base "sums_of" 3 R_sums := ⟨mo_sums, _, _, _, PySem.W.mg_of X G a3, k3, b_sums_of, ok_sums C c_number_of F_sums_of⟩
  have c_sealed : CaP l.prog w K mg base "sealed" 4 R_sealed := ⟨mo_sealed, _, _, _, PySem.W.mg_of X G a4, k4, b_sealed, ok_sealed C c_sums_of F_sealed⟩
  have c_is_text : CaP l.prog w K mg base "is_text" 2 R_istext := ⟨mo_istext, _, _, _, PySem.W.mg_of X G a5, k5, b_is_text, ok_istext C c_is_sign F_is_text⟩
  have c_opened : CaP l.prog w K mg base "opened" 5 R_opened := ⟨mo_opened, _, _, _, PySem.W.mg_of X G a6, k6, b_opened, ok_opened C c_is_text c_sealed F_opened⟩
  have x_opened : CaX l.prog w K mg base "opened" 5 (R_openedX C_BadText) := ⟨mo_openedX _, _, _, _, PySem.W.mg_of X G a6, k6, b_opened, ok_openedX C TB c_is_text c_sealed F_opened⟩
  have c_differing : CaP l.prog w K mg base "differing" 1 R_diff := ⟨mo_diff, _, _, _, PySem.W.mg_of X G a7, k7, b_differing, ok_diff C F_differing⟩
  have c_read_sum : CaP l.prog w K mg base "read_sum" 1 R_rs := ⟨mo_rs, _, _, _, PySem.W.mg_of X G a8, k8, b_read_sum, ok_rs C F_read_sum⟩
  have c_inverse : CaP l.prog w K mg base "inverse" 1 R_inv := ⟨mo_inv, _, _, _, PySem.W.mg_of X G a9, k9, b_inverse, ok_inv C F_inverse⟩
  have c_with_one_mended : CaP l.prog w K mg base "with_one_mended" 4 R_wom := ⟨mo_wom, _, _, _, PySem.W.mg_of X G a10, k10, b_with_one_mended, ok_wom C c_number_of c_sums_of c_inverse F_with_one_mended⟩
  have c_mended : CaP l.prog w K mg base "mended" 5 R_mended := ⟨mo_mended, _, _, _, PySem.W.mg_of X G a11, k11, b_mended, ok_mended C c_is_text c_sealed c_differing c_read_sum c_with_one_mended F_mended⟩
  have x_mended : CaX l.prog w K mg base "mended" 5 (R_mendedX C_BadText) := ⟨mo_mendedX _, _, _, _, PySem.W.mg_of X G a11, k11, b_mended, ok_mendedX C TB c_is_text c_sealed c_differing c_read_sum c_with_one_mended F_mended⟩
  have c_law_mixed : CaP l.prog w K mg base "_law_mixed" 1 R_mixed := ⟨mo_mixed, _, _, _, PySem.W.mg_of X G a12, k12, b_law_mixed, ok_law_mixed C.toBs F_law_mixed⟩
  have c_law_rest : CaP l.prog w K mg base "_law_rest" 2 R_rest := ⟨mo_rest, _, _, _, PySem.W.mg_of X G a13, k13, b_law_rest, ok_law_rest C.toBs c_law_mixed F_law_rest⟩
  have c_law_pool : CaP l.prog w K mg base "_law_pool" 3 R_pool := ⟨mo_pool, _, _, _, PySem.W.mg_of X G a14, k14, b_law_pool, ok_law_pool C.toBs c_law_rest F_law_pool⟩
  have c_law_next : CaC l.prog w K mg base "_law_next" 3 R_next := ⟨mo_next, _, _, _, PySem.W.mg_of X G a15, k15, b_law_next, ok_law_next C.toBs c_law_rest F_law_next⟩
  have c_law_draw : CaC l.prog w K mg base "_law_draw" 3 R_draw := ⟨mo_draw, _, _, _, PySem.W.mg_of X G a16, k16, b_law_draw, ok_law_draw C.toBs c_law_rest F_law_draw⟩
  have o_law_same : ∀ n, FnOk l.prog w K mg base CX0 n f17 _ ["answer", "due"] (spP K (R_same n)) := fun n => by
    induction n with
    | zero => exact fn_vac fun ds post hh => (by obtain ⟨_, _, _, z, _⟩ := hh; exact z)
    | succ n ih => exact step_same n C ⟨mo_same n, _, _, _, PySem.W.mg_of X G a17, k17, b_law_same, ih⟩ F_law_same
  have c_law_same : CaP l.prog w K mg base "_law_same" 3 (R_same 3) := ⟨mo_same 3, _, _, _, PySem.W.mg_of X G a17, k17, b_law_same, o_law_same 3⟩
  have c_law_signs : CaP l.prog w K mg base "_law_signs" 1 R_sg := ⟨mo_sg, _, _, _, PySem.W.mg_of X G a18, k18, b_law_signs, ok_lsigns F_law_signs⟩
  have c_law_numbers : CaP l.prog w K mg base "_law_numbers" 1 R_sums := ⟨mo_sums, _, _, _, PySem.W.mg_of X G a19, k19, b_law_numbers, ok_lnumbers C F_law_numbers⟩
  have c_law_sealed : CaP l.prog w K mg base "_law_sealed" 2 R_sealed := ⟨mo_sealed, _, _, _, PySem.W.mg_of X G a20, k20, b_law_sealed, ok_lsealed C c_law_numbers F_law_sealed⟩
  have c_law_differing : CaP l.prog w K mg base "_law_differing" 1 R_diff := ⟨mo_diff, _, _, _, PySem.W.mg_of X G a21, k21, b_law_differing, ok_ldiff C F_law_differing⟩
  have c_law_with_sums : CaP l.prog w K mg base "_law_with_sums" 2 R_lws := ⟨mo_lws, _, _, _, PySem.W.mg_of X G a22, k22, b_law_with_sums, ok_lws C c_law_numbers c_law_signs F_law_with_sums⟩
  have c_law_near : CaP l.prog w K mg base "_law_near" 3 R_near := ⟨mo_near, _, _, _, PySem.W.mg_of X G a23, k23, b_law_near, ok_near C c_law_differing c_law_sealed c_law_with_sums F_law_near⟩
  have c_law_any_text : CaC l.prog w K mg base "_law_any_text" 4 R_any := ⟨mo_any, _, _, _, PySem.W.mg_of X G a24, k24, b_law_any_text, ok_any C c_law_signs c_law_draw F_law_any_text⟩
  have c_law_replaced : CaC l.prog w K mg base "_law_replaced" 4 R_repl := ⟨mo_repl, _, _, _, PySem.W.mg_of X G a25, k25, b_law_replaced, ok_repl C c_law_signs c_law_draw F_law_replaced⟩
  have c_law_opened : CaP l.prog w K mg base "_law_opened" 6 R_lop := ⟨mo_lop, _, _, _, PySem.W.mg_of X G a26, k26, b_law_opened, ok_lop C TY c_opened x_opened F_law_opened⟩
  have c_law_mended : CaP l.prog w K mg base "_law_mended" 6 R_lmen := ⟨mo_lmen, _, _, _, PySem.W.mg_of X G a27, k27, b_law_mended, ok_lmen C TY c_mended x_mended F_law_mended⟩
  have c_law_right : CaP l.prog w K mg base "_law_right" 7 R_right := ⟨mo_right, _, _, _, PySem.W.mg_of X G a28, k28, b_law_right, ok_right C c_law_near c_law_same c_law_opened c_law_mended F_law_right⟩
  have c_law_other : CaC l.prog w K mg base "_law_other" 4 R_other := ⟨mo_other, _, _, _, PySem.W.mg_of X G a29, k29, b_law_other, ok_other C c_law_draw F_law_other⟩
  exact ok_law C c_law_pool c_law_draw c_law_next c_law_any_text c_sealed c_law_sealed c_law_same c_law_right c_law_replaced c_law_mended c_law_near c_law_other c_law_opened F_law
end W
open PySem PySem.W PyProof.Rows
set_option maxHeartbeats 0
theorem PySem.Challenge.cw_networth_k82_sealed_texts_holds : PySem.Challenge.rw_networth_k82_sealed_texts.Holds := by
  w_on; o_law; k_head; (case hw => w_witness2)
  k_fill
  refine L2.walk_of (l := PySem.Challenge.rw_networth_k82_sealed_texts) (n := 63) (k := 8) (x := "script") (CX := fun _ => L2.CX0) (sp := fun w => DL.spP _ W.R_law) rfl (by decide) rfl ⟨rfl, by decide, by decide⟩ (fun w h Y => PySem.W.kIn_of Y) ?F (fun _ H a ns hl _ hS => W.law_sp hS hl) (fun _ _ _ _ _ h => h)
  case F =>
    intro w mg fa h KX G hmg
    refine' W.all_mk KX G hmg ?aC_BadText ?aC_NetworthError ?xq_BadText ?kC_BadText ?sb_BadText ?ty_BadText ?xm_BadText ?kt_BadText ?kv_BadText ?ne_BadText ?a1 ?l1 ?c1 ?k1 ?a2 ?l2 ?c2 ?k2 ?a3 ?l3 ?c3 ?k3 ?a4 ?l4 ?c4 ?k4 ?a5 ?l5 ?c5 ?k5 ?a6 ?l6 ?c6 ?k6 ?a7 ?l7 ?c7 ?k7 ?a8 ?l8 ?c8 ?k8 ?a9 ?l9 ?c9 ?k9 ?a10 ?l10 ?c10 ?k10 ?a11 ?l11 ?c11 ?k11 ?a12 ?l12 ?c12 ?k12 ?a13 ?l13 ?c13 ?k13 ?a14 ?l14 ?c14 ?k14 ?a15 ?l15 ?c15 ?k15 ?a16 ?l16 ?c16 ?k16 ?a17 ?l17 ?c17 ?k17 ?a18 ?l18 ?c18 ?k18 ?a19 ?l19 ?c19 ?k19 ?a20 ?l20 ?c20 ?k20 ?a21 ?l21 ?c21 ?k21 ?a22 ?l22 ?c22 ?k22 ?a23 ?l23 ?c23 ?k23 ?a24 ?l24 ?c24 ?k24 ?a25 ?l25 ?c25 ?k25 ?a26 ?l26 ?c26 ?k26 ?a27 ?l27 ?c27 ?k27 ?a28 ?l28 ?c28 ?k28 ?a29 ?l29 ?c29 ?k29 ?a30 ?l30 ?c30 ?k30 ?z_SIGNS ?z_MODULUS ?z_LENGTH_MOST ?z_TAIL ?b_int ?b_len ?b_range ?b_str ?b_ord ?b_min ?b_all ?b_isinstance ?b_tuple ?b_dict ?b_list ?b_bool ?b_enumerate ?b_ValueError
    (case aC_BadText => k_is)
    (case aC_NetworthError => k_is)
    (case xq_BadText => kernel_rfl)
    (case kC_BadText => k_is)
    (case sb_BadText => k_is)
    (case ty_BadText => k_is)
    (case xm_BadText => kernel_rfl)
    (case kt_BadText => kernel_rfl)
    (case kv_BadText => kernel_rfl)
    (case ne_BadText => decide)
    (case a1 => k_is)
    (case l1 => k_is)
    (case c1 => k_is)
    (case k1 => k_is)
    (case a2 => k_is)
    (case l2 => k_is)
    (case c2 => k_is)
    (case k2 => k_is)
    (case a3 => k_is)
    (case l3 => k_is)
    (case c3 => k_is)
    (case k3 => k_is)
    (case a4 => k_is)
    (case l4 => k_is)
    (case c4 => k_is)
    (case k4 => k_is)
    (case a5 => k_is)
    (case l5 => k_is)
    (case c5 => k_is)
    (case k5 => k_is)
    (case a6 => k_is)
    (case l6 => k_is)
    (case c6 => k_is)
    (case k6 => k_is)
    (case a7 => k_is)
    (case l7 => k_is)
    (case c7 => k_is)
    (case k7 => k_is)
    (case a8 => k_is)
    (case l8 => k_is)
    (case c8 => k_is)
    (case k8 => k_is)
    (case a9 => k_is)
    (case l9 => k_is)
    (case c9 => k_is)
    (case k9 => k_is)
    (case a10 => k_is)
    (case l10 => k_is)
    (case c10 => k_is)
    (case k10 => k_is)
    (case a11 => k_is)
    (case l11 => k_is)
    (case c11 => k_is)
    (case k11 => k_is)
    (case a12 => k_is)
    (case l12 => k_is)
    (case c12 => k_is)
    (case k12 => k_is)
    (case a13 => k_is)
    (case l13 => k_is)
    (case c13 => k_is)
    (case k13 => k_is)
    (case a14 => k_is)
    (case l14 => k_is)
    (case c14 => k_is)
    (case k14 => k_is)
    (case a15 => k_is)
    (case l15 => k_is)
    (case c15 => k_is)
    (case k15 => k_is)
    (case a16 => k_is)
    (case l16 => k_is)
    (case c16 => k_is)
    (case k16 => k_is)
    (case a17 => k_is)
    (case l17 => k_is)
    (case c17 => k_is)
    (case k17 => k_is)
    (case a18 => k_is)
    (case l18 => k_is)
    (case c18 => k_is)
    (case k18 => k_is)
    (case a19 => k_is)
    (case l19 => k_is)
    (case c19 => k_is)
    (case k19 => k_is)
    (case a20 => k_is)
    (case l20 => k_is)
    (case c20 => k_is)
    (case k20 => k_is)
    (case a21 => k_is)
    (case l21 => k_is)
    (case c21 => k_is)
    (case k21 => k_is)
    (case a22 => k_is)
    (case l22 => k_is)
    (case c22 => k_is)
    (case k22 => k_is)
    (case a23 => k_is)
    (case l23 => k_is)
    (case c23 => k_is)
    (case k23 => k_is)
    (case a24 => k_is)
    (case l24 => k_is)
    (case c24 => k_is)
    (case k24 => k_is)
    (case a25 => k_is)
    (case l25 => k_is)
    (case c25 => k_is)
    (case k25 => k_is)
    (case a26 => k_is)
    (case l26 => k_is)
    (case c26 => k_is)
    (case k26 => k_is)
    (case a27 => k_is)
    (case l27 => k_is)
    (case c27 => k_is)
    (case k27 => k_is)
    (case a28 => k_is)
    (case l28 => k_is)
    (case c28 => k_is)
    (case k28 => k_is)
    (case a29 => k_is)
    (case l29 => k_is)
    (case c29 => k_is)
    (case k29 => k_is)
    (case a30 => k_is)
    (case l30 => k_is)
    (case c30 => k_is)
    (case k30 => k_is)
    (case z_SIGNS => k_is)
    (case z_MODULUS => k_is)
    (case z_LENGTH_MOST => k_is)
    (case z_TAIL => k_is)
    (case b_int => k_is)
    (case b_len => k_is)
    (case b_range => k_is)
    (case b_str => k_is)
    (case b_ord => k_is)
    (case b_min => k_is)
    (case b_all => k_is)
    (case b_isinstance => k_is)
    (case b_tuple => k_is)
    (case b_dict => k_is)
    (case b_list => k_is)
    (case b_bool => k_is)
    (case b_enumerate => k_is)
    (case b_ValueError => k_is)
