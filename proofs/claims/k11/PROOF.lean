import PyProof.Rows.All
import Wide.All
import OpenK.AllK
import Wide.FinOn
import HandS.ForMost
import HandS.Wide
import HandS.ForExc
import HandS.IsInst
import HandS.Strs
import KE.SortData
import HandS.TupLe
import HandS.Ends
import HandS.Iter
import HandS.DictComp
import HandS.Style
import PySem.Challenge.RW_feltweight_k11_whole_how_all_run
set_option Elab.async false
set_option linter.all false
set_option maxRecDepth 100000
set_option maxHeartbeats 4000000
/-! FW: a layer over HandS in which a def is walked over plain data: what stands in the frame is told by data (values that never change) and by own lists and dicts; the heap is out of sight. -/
namespace FW
open PySem PySem.Spec PyProof.Rows L2

/-- plain data: lst a list that nobody changes any more, rdl a list that is read (the script), dic a dict with texts as keys -/
inductive D where
  | non | bl (b : Bool) | int (i : Int) | str (s : Str) | ref (a : Addr) | ty (n : String)
  | tup (xs : List D) | lst (xs : List D) | rdl (xs : List D) | dic (ks : List Str) (xs : List D)
  /-- a dict that is locked while it is walked; an exception of the class at C -/
  | fdc (ks : List Str) (xs : List D) | exc (C : Addr)

mutual
def Rep (K : PySem.W.Frag) (H : Hp) (v : V) : D → Prop
  | .non => v = .non
  | .bl b => v = .bl b
  | .int i => v = .int i
  | .str s => v = .str s
  | .ref a => v = .ref a
  | .ty n => v = .ty n
  | .tup ds => ∃ a vs, v = .ref a ∧ SqT K H a vs ∧ Reps K H vs ds
  | .lst ds => ∃ a vs, v = .ref a ∧ H a = some (.lst vs) ∧ Reps K H vs ds
  | .rdl ds => ∃ a vs, v = .ref a ∧ SqL K H a vs ∧ Reps K H vs ds
  | .dic ks ds => ∃ a ws, v = .ref a ∧ Rd H a (.dK ws) ∧ ws.map (·.1) = ks.map Sum.inr ∧ Reps K H (ws.map (·.2)) ds
  | .fdc ks ds => ∃ a o ws, v = .ref a ∧ H a = some (.frz o (.dK ws)) ∧ ws.map (·.1) = ks.map Sum.inr ∧ Reps K H (ws.map (·.2)) ds
  | .exc C => ∃ a oe, v = .ref a ∧ H a = some (.ext fun h => h.get? a = some oe) ∧ Zc (.ref C) none oe ∧ ∃ vs, oe.data = .fields vs
def Reps (K : PySem.W.Frag) (H : Hp) (vs : List V) : List D → Prop
  | [] => vs = []
  | d :: ds => ∃ v r, vs = v :: r ∧ Rep K H v d ∧ Reps K H r ds
end

theorem Same.rd {H H' : Hp} {a : Addr} {u : HO} (e : Same H H') (h : Rd H a u) : Rd H' a u := by
  rcases h with h | ⟨o, h⟩
  · exact .inl (e _ _ h)
  · exact .inr ⟨o, e _ _ h⟩
theorem Same.tup {K : PySem.W.Frag} {H H' : Hp} {a : Addr} {xs : List V} (e : Same H H') (h : SqT K H a xs) : SqT K H' a xs := by
  rcases h with h | h
  · exact .inl (Same.rd e h)
  · exact .inr h

section
variable {K : PySem.W.Frag} {H H' : Hp}
mutual
theorem Rep.mono (e : Same H H') : ∀ {d : D} {v : V}, Rep K H v d → Rep K H' v d
  | .non, _, h => h
  | .bl _, _, h => h
  | .int _, _, h => h
  | .str _, _, h => h
  | .ref _, _, h => h
  | .ty _, _, h => h
  | .tup _, _, ⟨a, vs, h1, h2, h3⟩ => ⟨a, vs, h1, Same.tup e h2, Reps.mono e h3⟩
  | .lst _, _, ⟨a, vs, h1, h2, h3⟩ => ⟨a, vs, h1, e _ _ h2, Reps.mono e h3⟩
  | .rdl _, _, ⟨a, vs, h1, h2, h3⟩ => ⟨a, vs, h1, L2.Same.seq e h2, Reps.mono e h3⟩
  | .dic _ _, _, ⟨a, ws, h1, h2, h3, h4⟩ => ⟨a, ws, h1, Same.rd e h2, h3, Reps.mono e h4⟩
  | .fdc _ _, _, ⟨a, o, ws, h1, h2, h3, h4⟩ => ⟨a, o, ws, h1, e _ _ h2, h3, Reps.mono e h4⟩
  | .exc _, _, ⟨a, oe, h1, h2, h3, h4⟩ => ⟨a, oe, h1, e _ _ h2, h3, h4⟩
theorem Reps.mono (e : Same H H') : ∀ {ds : List D} {vs : List V}, Reps K H vs ds → Reps K H' vs ds
  | [], _, h => h
  | _ :: _, _, ⟨v, r, h1, h2, h3⟩ => ⟨v, r, h1, Rep.mono e h2, Reps.mono e h3⟩
end
theorem Reps.length : ∀ {ds : List D} {vs : List V}, Reps K H vs ds → vs.length = ds.length
  | [], _, h => by cases (show _ = _ from h); rfl
  | d :: ds, _, ⟨v, r, h1, _, h3⟩ => by subst h1; simp [Reps.length h3]
theorem Reps.nil : Reps K H [] [] := rfl
theorem Reps.cons {v : V} {d : D} {vs : List V} {ds : List D} (h : Rep K H v d) (t : Reps K H vs ds) : Reps K H (v :: vs) (d :: ds) := ⟨v, vs, rfl, h, t⟩
theorem Reps.get : ∀ {ds : List D} {vs : List V} {i : Nat} {d : D}, Reps K H vs ds → ds[i]? = some d → ∃ v, vs[i]? = some v ∧ Rep K H v d
  | [], _, _, _, _, e => by simp at e
  | _ :: _, _, 0, _, ⟨v, r, h1, h2, h3⟩, e => by subst h1; simp at e; subst e; exact ⟨v, rfl, h2⟩
  | _ :: ds, _, i + 1, _, ⟨v, r, h1, h2, h3⟩, e => by subst h1; exact Reps.get (i := i) h3 (by simpa using e)
theorem Reps.getV : ∀ {ds : List D} {vs : List V} {i : Nat} {v : V}, Reps K H vs ds → vs[i]? = some v → ∃ d, ds[i]? = some d ∧ Rep K H v d
  | [], _, _, _, h, e => by cases (show _ = _ from h); simp at e
  | d :: _, _, 0, _, ⟨v, r, h1, h2, h3⟩, e => by subst h1; simp at e; subst e; exact ⟨d, rfl, h2⟩
  | _ :: ds, _, i + 1, _, ⟨v, r, h1, h2, h3⟩, e => by subst h1; exact Reps.getV (i := i) h3 (by simpa using e)
theorem Reps.append : ∀ {ds es : List D} {vs us : List V}, Reps K H vs ds → Reps K H us es → Reps K H (vs ++ us) (ds ++ es)
  | [], _, _, _, h, t => by cases (show _ = _ from h); exact t
  | _ :: _, _, _, _, ⟨v, r, h1, h2, h3⟩, t => by subst h1; exact ⟨v, r ++ _, rfl, h2, Reps.append h3 t⟩
theorem Reps.snoc {ds : List D} {vs : List V} {v : V} {d : D} (h : Reps K H vs ds) (t : Rep K H v d) : Reps K H (vs ++ [v]) (ds ++ [d]) := h.append (Reps.cons t Reps.nil)
theorem Reps.take : ∀ {ds : List D} {vs : List V} (n : Nat), Reps K H vs ds → Reps K H (vs.take n) (ds.take n)
  | _, _, 0, _ => by simp [Reps]
  | [], _, _ + 1, h => by cases (show _ = _ from h); simp [Reps]
  | _ :: _, _, n + 1, ⟨v, r, h1, h2, h3⟩ => by subst h1; exact ⟨v, r.take n, rfl, h2, Reps.take n h3⟩
theorem Reps.drop : ∀ {ds : List D} {vs : List V} (n : Nat), Reps K H vs ds → Reps K H (vs.drop n) (ds.drop n)
  | _, _, 0, h => h
  | [], _, _ + 1, h => by cases (show _ = _ from h); simp [Reps]
  | _ :: _, _, n + 1, ⟨v, r, h1, h2, h3⟩ => by subst h1; exact Reps.drop n h3
theorem Reps.set : ∀ {ds : List D} {vs : List V} {v : V} {d : D} (i : Nat), Reps K H vs ds → Rep K H v d → Reps K H (vs.set i v) (ds.set i d)
  | [], _, _, _, _, h, _ => by cases (show _ = _ from h); simp [Reps]
  | _ :: _, _, _, _, 0, ⟨v, r, h1, h2, h3⟩, t => by subst h1; exact ⟨_, r, rfl, t, h3⟩
  | _ :: _, _, _, _, i + 1, ⟨v, r, h1, h2, h3⟩, t => by subst h1; exact ⟨v, _, rfl, h2, Reps.set i h3 t⟩
theorem Reps.eraseIdx : ∀ {ds : List D} {vs : List V} (i : Nat), Reps K H vs ds → Reps K H (vs.eraseIdx i) (ds.eraseIdx i)
  | [], _, _, h => by cases (show _ = _ from h); simp [Reps]
  | _ :: _, _, 0, ⟨v, r, h1, h2, h3⟩ => by subst h1; exact h3
  | _ :: _, _, i + 1, ⟨v, r, h1, h2, h3⟩ => by subst h1; exact ⟨v, _, rfl, h2, Reps.eraseIdx i h3⟩
theorem Reps.dropLast {ds : List D} {vs : List V} (h : Reps K H vs ds) : Reps K H vs.dropLast ds.dropLast := by
  rw [List.dropLast_eq_take, List.dropLast_eq_take, h.length]
  exact h.take _
end

/-! ### own objects, slots -/
inductive O where
  | lst (xs : List D) | dic (ks : List Str) (xs : List D)
/-- what a slot holds: data, or an own object (true: the caller's, lent) -/
inductive A where
  | val (d : D) | own (par : Bool) (o : O)
def O.frz : O → D
  | .lst xs => .lst xs
  | .dic ks xs => .dic ks xs
def A.frz : A → D
  | .val d => d
  | .own _ o => o.frz
abbrev Rho := List (Option A)

def OwnAt (K : PySem.W.Frag) (H0 H1 : Hp) (p : Addr) : O → Prop
  | .lst ds => ∃ vs, H1 p = some (.lst vs) ∧ Reps K H0 vs ds
  | .dic ks ds => ∃ ws, H1 p = some (.dK ws) ∧ ws.map (·.1) = ks.map Sum.inr ∧ Reps K H0 (ws.map (·.2)) ds
theorem OwnAt.there {K : PySem.W.Frag} {H0 H1 : Hp} {p : Addr} {o : O} (h : OwnAt K H0 H1 p o) : ∃ u, H1 p = some u ∧ ∀ H0' H1', Same H0 H0' → H1' p = some u → OwnAt K H0' H1' p o := by
  cases o with
  | lst ds => obtain ⟨vs, h1, h2⟩ := h; exact ⟨_, h1, fun H0' H1' e q => ⟨vs, q, h2.mono e⟩⟩
  | dic ks ds => obtain ⟨ws, h1, h2, h3⟩ := h; exact ⟨_, h1, fun H0' H1' e q => ⟨ws, q, h2, h3.mono e⟩⟩
theorem OwnAt.up {K : PySem.W.Frag} {H0 H1 H0' H1' : Hp} {p : Addr} {o : O} (h : OwnAt K H0 H1 p o) (e : Same H0 H0') (e1 : ∀ u, H1 p = some u → H1' p = some u) : OwnAt K H0' H1' p o := by
  obtain ⟨u, hu, k⟩ := h.there
  exact k H0' H1' e (e1 u hu)

def OwnS (σ : L2.St) (ρ : Rho) (i : Nat) (p : Addr) : Prop := (∃ b o, ρ[i]? = some (some (.own b o))) ∧ σ[i]? = some (some (.ref p))
def ParS (σ : L2.St) (ρ : Rho) (i : Nat) (p : Addr) : Prop := (∃ o, ρ[i]? = some (some (.own true o))) ∧ σ[i]? = some (some (.ref p))
def Cell (σ : L2.St) (ρ : Rho) (p : Addr) : Prop := ∃ i, OwnS σ ρ i p

structure Sat (K : PySem.W.Frag) (H0 H1 : Hp) (σ : L2.St) (ρ : Rho) : Prop where
  sub : Same H0 H1
  val : ∀ (i : Nat) (d : D), ρ[i]? = some (some (.val d)) → ∃ v, σ[i]? = some (some v) ∧ Rep K H0 v d
  own : ∀ (i : Nat) (b : Bool) (o : O), ρ[i]? = some (some (.own b o)) → ∃ p, σ[i]? = some (some (.ref p)) ∧ H0 p = none ∧ OwnAt K H0 H1 p o
  dist : ∀ i j p, OwnS σ ρ i p → OwnS σ ρ j p → i = j
  len : σ.length = ρ.length

structure Step (σ : L2.St) (ρ : Rho) (H0 H1 : Hp) (σ' : L2.St) (ρ' : Rho) (H0' H1' : Hp) : Prop where
  kn : Same H0 H0'
  new : ∀ a o, H0' a = some o → H0 a = some o ∨ H1 a = none ∨ Cell σ ρ a
  fr : ∀ a o, H1 a = some o → ¬ Cell σ ρ a → H1' a = some o
  dom : ∀ a, H1' a = none → H1 a = none
  cell : ∀ a, Cell σ' ρ' a → Cell σ ρ a ∨ H1 a = none
  par : ∀ i p, ParS σ ρ i p → ParS σ' ρ' i p

theorem Step.refl {σ : L2.St} {ρ : Rho} {H0 H1 : Hp} : Step σ ρ H0 H1 σ ρ H0 H1 :=
  ⟨L2.Same.refl _, fun _ _ h => .inl h, fun _ _ h _ => h, fun _ h => h, fun _ h => .inl h, fun _ _ h => h⟩
theorem Step.trans {σ σ' σ'' : L2.St} {ρ ρ' ρ'' : Rho} {H0 H1 H0' H1' H0'' H1'' : Hp} (s : Step σ ρ H0 H1 σ' ρ' H0' H1') (t : Step σ' ρ' H0' H1' σ'' ρ'' H0'' H1'') :
    Step σ ρ H0 H1 σ'' ρ'' H0'' H1'' := by
  have cel : ∀ a, Cell σ' ρ' a → H1 a = none ∨ Cell σ ρ a := fun a h => (s.cell a h).symm
  refine ⟨L2.Same.trans s.kn t.kn, fun a o h => ?_, fun a o h n => ?_, fun a h => s.dom a (t.dom a h), fun a h => ?_, fun i p h => t.par i p (s.par i p h)⟩
  · rcases t.new a o h with q | q | q
    · exact s.new a o q
    · exact .inr (.inl (s.dom a q))
    · exact .inr (cel a q)
  · refine t.fr a o (s.fr a o h n) fun c => ?_
    rcases s.cell a c with q | q
    · exact n q
    · rw [h] at q; cases q
  · rcases t.cell a h with q | q
    · exact s.cell a q
    · exact .inr (s.dom a q)

/-! ### the context and its judgements -/
/-- a walked body: HandS's context, and what is wanted where an exception of the class at an address is let out -/
structure G where
  X : Cx
  ex : Rho → Addr → Prop
def wish (g : G) (σ : L2.St) (ρ : Rho) (H0 H1 : Hp) : WX := fun cls d σ' H' => ∃ C H0' ρ', cls = .ref C ∧ d = none ∧ Step σ ρ H0 H1 σ' ρ' H0' H' ∧ Sat g.X.K H0' H' σ' ρ' ∧ g.ex ρ' C
def Tk (g : G) (σ : L2.St) (ρ : Rho) (H0 H1 : Hp) : Prop := Takes g.X (wish g σ ρ H0 H1)
theorem Tk.step {g : G} {σ σ' : L2.St} {ρ ρ' : Rho} {H0 H1 H0' H1' : Hp} (t : Tk g σ ρ H0 H1) (s : Step σ ρ H0 H1 σ' ρ' H0' H1') : Tk g σ' ρ' H0' H1' :=
  t.imp fun c d σ2 H2 ⟨C, K0, r, e1, e2, st, sa, q⟩ => ⟨C, K0, r, e1, e2, s.trans st, sa, q⟩

/-- an expression's readings of one's own: the meaning itself -/
def tX (X : Cx) (e : Expr) : TE := fun σ H Q => ∀ pins s, Inv X pins σ H s → wpAny (model X.prog X.w) X.A (eval e X.env) (EP X pins σ Q) X.xe s
theorem pX {X : Cx} {e : Expr} : PE X e (tX X e) := ⟨fun pins s σ H Q I h => h pins s I⟩
def tXT (X : Cx) (e : Expr) : TT := fun σ H Q => ∀ pins s, Inv X pins σ H s → wpAny (model X.prog X.w) X.A (isTrue e X.env (eval e X.env)) (TP X pins σ Q) X.xe s
theorem pXT {X : Cx} {e : Expr} : PT X e (tXT X e) := ⟨fun pins s σ H Q I h => h pins s I⟩
def tXW (X : Cx) (e : Expr) : TT := fun σ H Q => ∀ wh pins s, Inv X pins σ H s → wpAny (model X.prog X.w) X.A (isTrue e X.env wh) (TP X pins σ Q) X.xe s
theorem pXW {X : Cx} {e : Expr} : PW X e (tXW X e) := ⟨fun wh pins s σ H Q I h => h wh pins s I⟩
def tXA (X : Cx) (es : List Expr) : TA := fun σ H Q => ∀ pos pins s, Inv X pins σ H s → wpAny (model X.prog X.w) X.A (spliced (backTo pos (starEach es X.env))) (AP X pins σ Q) X.xe s
theorem pXA {X : Cx} {es : List Expr} : PA X es (tXA X es) := ⟨fun pos pins s σ H Q I h => h pos pins s I⟩
def tXS (X : Cx) (st : Stmt) : TS := fun D σ H => ∀ pins s, Inv X pins σ H s → wpAny (model X.prog X.w) X.A (exec st X.env) (SP X pins D) X.xe s
theorem pXS {X : Cx} {st : Stmt} : PS X st (tXS X st) := ⟨fun pins s σ H D I h => h pins s I⟩
def tXSs (X : Cx) (st : List Stmt) : TS := fun D σ H => ∀ pins s, Inv X pins σ H s → wpAny (model X.prog X.w) X.A (execs st X.env) (SP X pins D) X.xe s
theorem pXSs {X : Cx} {st : List Stmt} : PSs X st (tXSs X st) := ⟨fun pins s σ H D I h => h pins s I⟩

/-- a result: data, or an own object made on the way -/
def Res (K : PySem.W.Frag) (Hb : Hp) (σ : L2.St) (ρ : Rho) (H0 H1 : Hp) (v : V) : A → Prop
  | .val d => Rep K H0 v d
  | .own _ o => ∃ p, v = .ref p ∧ H0 p = none ∧ Hb p = none ∧ ¬ Cell σ ρ p ∧ OwnAt K H0 H1 p o
/-- te from ρ, over data -/
def WV (g : G) (te : TE) (ρ : Rho) (Q : Rho → D → Prop) : Prop := ∀ σ H0 H1, Sat g.X.K H0 H1 σ ρ → Tk g σ ρ H0 H1 → ∀ Qv : VK,
  (∀ v H0' H1' ρ' d, Step σ ρ H0 H1 σ ρ' H0' H1' → Sat g.X.K H0' H1' σ ρ' → Rep g.X.K H0' v d → Q ρ' d → Qv v H1') → te σ H1 Qv
def WE (g : G) (te : TE) (ρ : Rho) (Q : Rho → A → Prop) : Prop := ∀ σ H0 H1, Sat g.X.K H0 H1 σ ρ → Tk g σ ρ H0 H1 → ∀ Qv : VK,
  (∀ v H0' H1' ρ' a, Step σ ρ H0 H1 σ ρ' H0' H1' → Sat g.X.K H0' H1' σ ρ' → Res g.X.K H1 σ ρ' H0' H1' v a → Q ρ' a → Qv v H1') → te σ H1 Qv
def WT (g : G) (tt : TT) (ρ : Rho) (Q : Rho → Bool → Prop) : Prop := ∀ σ H0 H1, Sat g.X.K H0 H1 σ ρ → Tk g σ ρ H0 H1 → ∀ Qv : Bool → Hp → Prop,
  (∀ H0' H1' ρ' b, Step σ ρ H0 H1 σ ρ' H0' H1' → Sat g.X.K H0' H1' σ ρ' → Q ρ' b → Qv b H1') → tt σ H1 Qv
/-- what is wanted behind a statement -/
structure Dn where
  nx : Rho → Prop
  rt : Rho → A → Prop
  bk : Rho → Prop := fun _ => False
  ct : Rho → Prop := fun _ => False
/-- a statement's result: an own object may be one that stood in a slot -/
def ResS (K : PySem.W.Frag) (σ0 : L2.St) (ρ0 : Rho) (Hb : Hp) (σ : L2.St) (ρ : Rho) (H0 H1 : Hp) (v : V) : A → Prop
  | .val d => Rep K H0 v d
  | .own _ o => ∃ p, v = .ref p ∧ H0 p = none ∧ (Cell σ0 ρ0 p ∨ Hb p = none) ∧ ¬ Cell σ ρ p ∧ OwnAt K H0 H1 p o
structure Got (g : G) (D : Dn) (σ : L2.St) (ρ : Rho) (H0 H1 : Hp) (De : Ends) : Prop where
  nx : ∀ σ' H0' H1' ρ', Step σ ρ H0 H1 σ' ρ' H0' H1' → Sat g.X.K H0' H1' σ' ρ' → D.nx ρ' → De.nx σ' H1'
  rt : ∀ v σ' H0' H1' ρ' a, Step σ ρ H0 H1 σ' ρ' H0' H1' → Sat g.X.K H0' H1' σ' ρ' → ResS g.X.K σ ρ H1 σ' ρ' H0' H1' v a → D.rt ρ' a → De.rt v H1'
  bk : ∀ σ' H0' H1' ρ', Step σ ρ H0 H1 σ' ρ' H0' H1' → Sat g.X.K H0' H1' σ' ρ' → D.bk ρ' → De.bk σ' H1'
  ct : ∀ σ' H0' H1' ρ', Step σ ρ H0 H1 σ' ρ' H0' H1' → Sat g.X.K H0' H1' σ' ρ' → D.ct ρ' → De.ct σ' H1'
def WS (g : G) (ts : TS) (ρ : Rho) (D : Dn) : Prop := ∀ σ H0 H1, Sat g.X.K H0 H1 σ ρ → Tk g σ ρ H0 H1 → ∀ De : Ends, Got g D σ ρ H0 H1 De → ts De σ H1

abbrev GoV (g : G) (e : Expr) (ρ : Rho) (Q : Rho → D → Prop) : Prop := WV g (tX g.X e) ρ Q
abbrev GoE (g : G) (e : Expr) (ρ : Rho) (Q : Rho → A → Prop) : Prop := WE g (tX g.X e) ρ Q
abbrev GoT (g : G) (e : Expr) (ρ : Rho) (Q : Rho → Bool → Prop) : Prop := WT g (tXT g.X e) ρ Q
abbrev GoW (g : G) (e : Expr) (ρ : Rho) (Q : Rho → Bool → Prop) : Prop := WT g (tXW g.X e) ρ Q
abbrev GoS (g : G) (st : Stmt) (ρ : Rho) (D : Dn) : Prop := WS g (tXS g.X st) ρ D
abbrev GoB (g : G) (st : List Stmt) (ρ : Rho) (D : Dn) : Prop := WS g (tXSs g.X st) ρ D

section
variable {g : G} {e : Expr} {es : List Expr} {st : Stmt} {sts : List Stmt} {te : TE} {tt : TT} {ts : TS} {ρ : Rho}
theorem v_of {Q : Rho → D → Prop} (p : PE g.X e te) (h : WV g te ρ Q) : GoV g e ρ Q := fun σ H0 H1 S T Qv k pins s I => p.run pins s σ H1 Qv I (h σ H0 H1 S T Qv k)
theorem e_of {Q : Rho → A → Prop} (p : PE g.X e te) (h : WE g te ρ Q) : GoE g e ρ Q := fun σ H0 H1 S T Qv k pins s I => p.run pins s σ H1 Qv I (h σ H0 H1 S T Qv k)
theorem t_of {Q : Rho → Bool → Prop} (p : PT g.X e tt) (h : WT g tt ρ Q) : GoT g e ρ Q := fun σ H0 H1 S T Qv k pins s I => p.run pins s σ H1 Qv I (h σ H0 H1 S T Qv k)
theorem w_of {Q : Rho → Bool → Prop} (p : PW g.X e tt) (h : WT g tt ρ Q) : GoW g e ρ Q := fun σ H0 H1 S T Qv k wh pins s I => p.run wh pins s σ H1 Qv I (h σ H0 H1 S T Qv k)
theorem s_of {D : Dn} (p : PS g.X st ts) (h : WS g ts ρ D) : GoS g st ρ D := fun σ H0 H1 S T De k pins s I => p.run pins s σ H1 De I (h σ H0 H1 S T De k)
theorem b_of {D : Dn} (p : PSs g.X sts ts) (h : WS g ts ρ D) : GoB g sts ρ D := fun σ H0 H1 S T De k pins s I => p.run pins s σ H1 De I (h σ H0 H1 S T De k)
theorem t_w {Q : Rho → Bool → Prop} (h : GoW g e ρ Q) : GoT g e ρ Q := t_of (PW.pt pXW) h
theorem WV.imp {Q Q' : Rho → D → Prop} (h : WV g te ρ Q) (k : ∀ r d, Q r d → Q' r d) : WV g te ρ Q' := fun σ H0 H1 S T Qv q => h σ H0 H1 S T Qv fun v a b r d s1 s2 s3 s4 => q v a b r d s1 s2 s3 (k r d s4)
theorem WE.imp {Q Q' : Rho → A → Prop} (h : WE g te ρ Q) (k : ∀ r d, Q r d → Q' r d) : WE g te ρ Q' := fun σ H0 H1 S T Qv q => h σ H0 H1 S T Qv fun v a b r d s1 s2 s3 s4 => q v a b r d s1 s2 s3 (k r d s4)
theorem WT.imp {Q Q' : Rho → Bool → Prop} (h : WT g tt ρ Q) (k : ∀ r d, Q r d → Q' r d) : WT g tt ρ Q' := fun σ H0 H1 S T Qv q => h σ H0 H1 S T Qv fun a b r d s1 s2 s4 => q a b r d s1 s2 (k r d s4)
theorem WS.imp {D D' : Dn} (h : WS g ts ρ D) (k1 : ∀ r, D.nx r → D'.nx r) (k2 : ∀ r a, D.rt r a → D'.rt r a) (k3 : ∀ r, D.bk r → D'.bk r) (k4 : ∀ r, D.ct r → D'.ct r) : WS g ts ρ D' := fun σ H0 H1 S T De q =>
  h σ H0 H1 S T De ⟨fun a b c d s1 s2 s3 => q.nx a b c d s1 s2 (k1 _ s3), fun v a b c d x s1 s2 s3 s4 => q.rt v a b c d x s1 s2 s3 (k2 _ _ s4), fun a b c d s1 s2 s3 => q.bk a b c d s1 s2 (k3 _ s3), fun a b c d s1 s2 s3 => q.ct a b c d s1 s2 (k4 _ s3)⟩

/-- a new object that is known from now on -/
theorem sat_new {K : PySem.W.Frag} {σ : L2.St} {H0 H1 : Hp} {p : Addr} {u : HO} (S : Sat K H0 H1 σ ρ) (h : H1 p = none) : Sat K (upd H0 p u) (upd H1 p u) σ ρ ∧ Step σ ρ H0 H1 σ ρ (upd H0 p u) (upd H1 p u) := by
  have h0 : H0 p = none := S.sub.free h
  have e0 : Same H0 (upd H0 p u) := fun b o q => by rw [upd_ne (ne_of_none q h0)]; exact q
  have e1 : Same H1 (upd H1 p u) := fun b o q => by rw [upd_ne (ne_of_none q h)]; exact q
  refine ⟨⟨fun b o q => ?_, fun i d q => ?_, fun i b o q => ?_, S.dist, S.len⟩, ⟨e0, fun a o q => ?_, fun a o q _ => e1 a o q, fun a q => e1.free q, fun a q => .inl q, fun i p q => q⟩⟩
  · by_cases z : b = p
    · subst z; rw [upd_same] at q ⊢; exact q
    · rw [upd_ne z] at q ⊢; exact S.sub b o q
  · obtain ⟨v, h1, h2⟩ := S.val i d q
    exact ⟨v, h1, h2.mono e0⟩
  · obtain ⟨a, h1, h2, h3⟩ := S.own i b o q
    obtain ⟨w, hw, _⟩ := h3.there
    have ne : a ≠ p := ne_of_none hw h
    exact ⟨a, h1, by rw [upd_ne ne]; exact h2, h3.up e0 fun u q => e1 a u q⟩
  · by_cases z : a = p
    · subst z; exact .inr (.inl h)
    · rw [upd_ne z] at q; exact .inl q
/-- a new object that is one's own -/
theorem sat_mine {K : PySem.W.Frag} {σ : L2.St} {H0 H1 : Hp} {p : Addr} {u : HO} (S : Sat K H0 H1 σ ρ) (h : H1 p = none) : Sat K H0 (upd H1 p u) σ ρ ∧ Step σ ρ H0 H1 σ ρ H0 (upd H1 p u) ∧ H0 p = none ∧ ¬ Cell σ ρ p := by
  have h0 : H0 p = none := S.sub.free h
  have e1 : Same H1 (upd H1 p u) := fun b o q => by rw [upd_ne (ne_of_none q h)]; exact q
  refine ⟨⟨L2.Same.trans S.sub e1, S.val, fun i b o q => ?_, S.dist, S.len⟩, ⟨L2.Same.refl _, fun a o q => .inl q, fun a o q _ => e1 a o q, fun a q => e1.free q, fun a q => .inl q, fun i p q => q⟩, h0, ?_⟩
  · obtain ⟨a, h1, h2, h3⟩ := S.own i b o q
    exact ⟨a, h1, h2, h3.up (L2.Same.refl _) fun u q => e1 a u q⟩
  · rintro ⟨i, ⟨b, o, hi⟩, hs⟩
    obtain ⟨a, h1, h2, h3⟩ := S.own i b o hi
    obtain ⟨w, hw, _⟩ := h3.there
    rw [hs] at h1; cases h1
    rw [h] at hw; cases hw
/-- an own object that stands in no slot becomes known -/
theorem sat_frz {K : PySem.W.Frag} {σ : L2.St} {H0 H1 : Hp} {p : Addr} {o : O} (S : Sat K H0 H1 σ ρ) (h0 : H0 p = none) (hc : ¬ Cell σ ρ p) (w : OwnAt K H0 H1 p o) :
    ∃ H0', Same H0 H0' ∧ Sat K H0' H1 σ ρ ∧ (∀ a u, H0' a = some u → H0 a = some u ∨ a = p) ∧ Rep K H0' (.ref p) o.frz := by
  obtain ⟨u, hu, k⟩ := w.there
  have e0 : Same H0 (upd H0 p u) := fun b o q => by rw [upd_ne (ne_of_none q h0)]; exact q
  refine ⟨upd H0 p u, e0, ⟨fun b o q => ?_, fun i d q => ?_, fun i b o q => ?_, S.dist, S.len⟩, fun a v q => ?_, ?_⟩
  · by_cases z : b = p
    · subst z; rw [upd_same] at q; cases q; exact hu
    · rw [upd_ne z] at q; exact S.sub b o q
  · obtain ⟨v, h1, h2⟩ := S.val i d q
    exact ⟨v, h1, h2.mono e0⟩
  · obtain ⟨a, h1, h2, h3⟩ := S.own i b o q
    have ne : a ≠ p := fun z => hc ⟨i, ⟨b, o, q⟩, by rw [← z]; exact h1⟩
    exact ⟨a, h1, by rw [upd_ne ne]; exact h2, h3.up e0 fun _ z => z⟩
  · by_cases z : a = p
    · exact .inr z
    · rw [upd_ne z] at q; exact .inl q
  · cases o with
    | lst ds =>
      obtain ⟨vs, h1, h2⟩ := w
      rw [hu] at h1; cases h1
      exact ⟨p, vs, rfl, upd_same, h2.mono e0⟩
    | dic ks ds =>
      obtain ⟨ws, h1, h2, h3⟩ := w
      rw [hu] at h1; cases h1
      exact ⟨p, ws, rfl, .inl upd_same, h2, h3.mono e0⟩
/-- a result as data -/
theorem v_e {Q : Rho → D → Prop} (h : GoE g e ρ fun r a => Q r a.frz) : GoV g e ρ Q := fun σ H0 H1 S T Qv k pins s I => by
  refine h σ H0 H1 S T Qv (fun v H0' H1' ρ' a st S' rs q => ?_) pins s I
  cases a with
  | val d => exact k v H0' H1' ρ' d st S' rs q
  | own b o =>
    obtain ⟨p, rfl, h0, hb, hc, w⟩ := rs
    obtain ⟨K0, e0, S2, hn, hr⟩ := sat_frz S' h0 hc w
    refine k _ K0 H1' ρ' o.frz ⟨L2.Same.trans st.kn e0, fun a u q => ?_, st.fr, st.dom, st.cell, st.par⟩ S2 hr q
    rcases hn a u q with z | z
    · exact st.new a u z
    · subst z; exact .inr (.inl hb)
theorem e_v {Q : Rho → A → Prop} (h : GoV g e ρ fun r d => Q r (.val d)) : GoE g e ρ Q := fun σ H0 H1 S T Qv k => h σ H0 H1 S T Qv fun v H0' H1' ρ' d st S' rs q => k v H0' H1' ρ' (.val d) st S' rs q
end
end FW

set_option Elab.async false
set_option linter.all false
set_option maxRecDepth 100000
set_option maxHeartbeats 4000000
namespace FW
open PySem PySem.Spec PyProof.Rows L2

theorem rep_int {K : PySem.W.Frag} {H : Hp} {n : Int} : Rep K H (.int n) (.int n) := rfl
theorem rep_str {K : PySem.W.Frag} {H : Hp} {n : Str} : Rep K H (.str n) (.str n) := rfl
theorem rep_bl {K : PySem.W.Frag} {H : Hp} {n : Bool} : Rep K H (.bl n) (.bl n) := rfl
theorem rep_nn {K : PySem.W.Frag} {H : Hp} : Rep K H .non .non := rfl
theorem rep_tup {K : PySem.W.Frag} {H : Hp} {a : Addr} {vs : List V} {ds : List D} (h : SqT K H a vs) (r : Reps K H vs ds) : Rep K H (.ref a) (.tup ds) := ⟨a, vs, rfl, h, r⟩
theorem rep_lst {K : PySem.W.Frag} {H : Hp} {a : Addr} {vs : List V} {ds : List D} (h : H a = some (.lst vs)) (r : Reps K H vs ds) : Rep K H (.ref a) (.lst ds) := ⟨a, vs, rfl, h, r⟩
theorem rep_dic {K : PySem.W.Frag} {H : Hp} {a : Addr} {ws : List (Key × V)} {ks : List Str} {ds : List D} (h : Rd H a (.dK ws)) (hk : ws.map (·.1) = ks.map Sum.inr) (r : Reps K H (ws.map (·.2)) ds) : Rep K H (.ref a) (.dic ks ds) := ⟨a, ws, rfl, h, hk, r⟩
theorem res_lst {K : PySem.W.Frag} {Hb : Hp} {σ : L2.St} {ρ : Rho} {H0 H1 : Hp} {p : Addr} {vs : List V} {ds : List D} (h0 : H0 p = none) (hb : Hb p = none) (hc : ¬ Cell σ ρ p) (h : H1 p = some (.lst vs)) (r : Reps K H0 vs ds) : Res K Hb σ ρ H0 H1 (.ref p) (.own false (.lst ds)) := ⟨p, rfl, h0, hb, hc, vs, h, r⟩
section
variable {g : G} {ρ : Rho} {ta tb tc te : TE} {tt tu : TT} {σ : L2.St} {H0 H1 : Hp}
/-! ### values in hand: operations on values -/
/-- a two-place operation on data in hand -/
def RV (g : G) (r : R2) (x y : D) (ρ : Rho) (Q : Rho → D → Prop) : Prop := ∀ σ H0 H1, Sat g.X.K H0 H1 σ ρ → Tk g σ ρ H0 H1 → ∀ v u, Rep g.X.K H0 v x → Rep g.X.K H0 u y → ∀ Qv : VK,
  (∀ z H0' H1' ρ' d, Step σ ρ H0 H1 σ ρ' H0' H1' → Sat g.X.K H0' H1' σ ρ' → Rep g.X.K H0' z d → Q ρ' d → Qv z H1') → r v u H1 Qv
def RU (g : G) (r : V → Hp → VK → Prop) (x : D) (ρ : Rho) (Q : Rho → D → Prop) : Prop := ∀ σ H0 H1, Sat g.X.K H0 H1 σ ρ → Tk g σ ρ H0 H1 → ∀ v, Rep g.X.K H0 v x → ∀ Qv : VK,
  (∀ z H0' H1' ρ' d, Step σ ρ H0 H1 σ ρ' H0' H1' → Sat g.X.K H0' H1' σ ρ' → Rep g.X.K H0' z d → Q ρ' d → Qv z H1') → r v H1 Qv
/-- .. that gives an own object, or data -/
def RVE (g : G) (r : R2) (x y : D) (ρ : Rho) (Q : Rho → A → Prop) : Prop := ∀ σ H0 H1, Sat g.X.K H0 H1 σ ρ → Tk g σ ρ H0 H1 → ∀ v u, Rep g.X.K H0 v x → Rep g.X.K H0 u y → ∀ Qv : VK,
  (∀ z H0' H1' ρ' a, Step σ ρ H0 H1 σ ρ' H0' H1' → Sat g.X.K H0' H1' σ ρ' → Res g.X.K H1 σ ρ' H0' H1' z a → Q ρ' a → Qv z H1') → r v u H1 Qv
theorem res_back {K : PySem.W.Frag} {Ha Hb : Hp} {ρ' : Rho} {v : V} {a : A} (h : Res K Hb σ ρ' H0 H1 v a) (k : ∀ p, Hb p = none → Ha p = none) : Res K Ha σ ρ' H0 H1 v a := by
  cases a with
  | val d => exact h
  | own b o => obtain ⟨p, e, h0, hb, hc, w⟩ := h; exact ⟨p, e, h0, k p hb, hc, w⟩
theorem wv_op {r : R2} {Q : Rho → D → Prop} (h : WV g ta ρ fun ρ1 x => WV g tb ρ1 fun ρ2 y => RV g r x y ρ2 Q) : WV g (tOp r ta tb) ρ Q := fun σ H0 H1 S T Qv k =>
  h σ H0 H1 S T _ fun v H0' H1' ρ' x st S' rx q => q σ H0' H1' S' (T.step st) _ fun u H0'' H1'' ρ'' y st' S'' ry q' =>
    q' σ H0'' H1'' S'' ((T.step st).step st') v u (rx.mono st'.kn) ry Qv fun z H03 H13 ρ3 d st3 S3 rz qz => k z H03 H13 ρ3 d ((st.trans st').trans st3) S3 rz qz
theorem we_op {r : R2} {Q : Rho → A → Prop} (h : WV g ta ρ fun ρ1 x => WV g tb ρ1 fun ρ2 y => RVE g r x y ρ2 Q) : WE g (tOp r ta tb) ρ Q := fun σ H0 H1 S T Qv k =>
  h σ H0 H1 S T _ fun v H0' H1' ρ' x st S' rx q => q σ H0' H1' S' (T.step st) _ fun u H0'' H1'' ρ'' y st' S'' ry q' =>
    q' σ H0'' H1'' S'' ((T.step st).step st') v u (rx.mono st'.kn) ry Qv fun z H03 H13 ρ3 d st3 S3 rz qz => k z H03 H13 ρ3 d ((st.trans st').trans st3) S3 (res_back rz fun p e => st.dom p (st'.dom p e)) qz
theorem wv_un {r : V → Hp → VK → Prop} {Q : Rho → D → Prop} (h : WV g ta ρ fun ρ1 x => RU g r x ρ1 Q) : WV g (tUn r ta) ρ Q := fun σ H0 H1 S T Qv k =>
  h σ H0 H1 S T _ fun v H0' H1' ρ' x st S' rx q => q σ H0' H1' S' (T.step st) v rx Qv fun z H03 H13 ρ3 d st3 S3 rz qz => k z H03 H13 ρ3 d (st.trans st3) S3 rz qz
theorem wv_c {v : V} {d : D} {Q : Rho → D → Prop} (hr : ∀ H, Rep g.X.K H v d) (k : Q ρ d) : WV g (tC v) ρ Q := fun σ H0 H1 S T Qv q => q v H0 H1 ρ d Step.refl S (hr H0) k
theorem wv_var {i : Nat} {d : D} {Q : Rho → D → Prop} (h : ρ[i]? = some (some (.val d))) (k : Q ρ d) : WV g (tVar i) ρ Q := fun σ H0 H1 S T Qv q => by
  obtain ⟨v, h1, h2⟩ := S.val i d h
  exact ⟨v, h1, q v H0 H1 ρ d Step.refl S h2 k⟩
/-! ### tests -/
theorem wt_test {Q : Rho → Bool → Prop} (h : WV g te ρ fun ρ1 x => ∃ b, x = .bl b ∧ Q ρ1 b) : WT g (tTest te) ρ Q := fun σ H0 H1 S T Qv k =>
  h σ H0 H1 S T _ fun v H0' H1' ρ' x st S' rx ⟨b, e, q⟩ => by
    subst e
    exact ⟨b, rx, k H0' H1' ρ' b st S' q⟩
theorem wt_B {Q : Rho → Bool → Prop} (h : WV g te ρ fun ρ1 x => ∃ b, x = .bl b ∧ Q ρ1 b) : WT g (tB te) ρ Q := wt_test h
theorem wt_and {Q : Rho → Bool → Prop} (h : WT g tt ρ fun ρ1 c => (c = true → WT g tu ρ1 Q) ∧ (c = false → Q ρ1 false)) : WT g (tAnd tt tu) ρ Q := fun σ H0 H1 S T Qv k =>
  h σ H0 H1 S T _ fun H0' H1' ρ' c st S' q => by
    cases c with
    | true => exact q.1 rfl σ H0' H1' S' (T.step st) Qv fun H03 H13 ρ3 b st3 S3 qz => k H03 H13 ρ3 b (st.trans st3) S3 qz
    | false => exact k H0' H1' ρ' false st S' (q.2 rfl)
theorem wt_or {Q : Rho → Bool → Prop} (h : WT g tt ρ fun ρ1 c => (c = true → Q ρ1 true) ∧ (c = false → WT g tu ρ1 Q)) : WT g (tOr tt tu) ρ Q := fun σ H0 H1 S T Qv k =>
  h σ H0 H1 S T _ fun H0' H1' ρ' c st S' q => by
    cases c with
    | true => exact k H0' H1' ρ' true st S' (q.1 rfl)
    | false => exact q.2 rfl σ H0' H1' S' (T.step st) Qv fun H03 H13 ρ3 b st3 S3 qz => k H03 H13 ρ3 b (st.trans st3) S3 qz
theorem wt_not {Q : Rho → Bool → Prop} (h : WT g tt ρ fun ρ1 c => Q ρ1 (!c)) : WT g (tNot tt) ρ Q := fun σ H0 H1 S T Qv k =>
  h σ H0 H1 S T _ fun H0' H1' ρ' c st S' q => k H0' H1' ρ' (!c) st S' q
theorem wv_andV {Q : Rho → D → Prop} (h : WV g ta ρ fun ρ1 x => ∃ c, x = .bl c ∧ (c = true → WV g tb ρ1 Q) ∧ (c = false → Q ρ1 (.bl false))) : WV g (tAndV ta tb) ρ Q := fun σ H0 H1 S T Qv k =>
  h σ H0 H1 S T _ fun v H0' H1' ρ' x st S' rx ⟨c, e, q1, q2⟩ => by
    subst e
    refine ⟨c, rx, ?_⟩
    cases c with
    | true => exact q1 rfl σ H0' H1' S' (T.step st) Qv fun z H03 H13 ρ3 b st3 S3 rz qz => k z H03 H13 ρ3 b (st.trans st3) S3 rz qz
    | false => exact k _ H0' H1' ρ' (.bl false) st S' rfl (q2 rfl)
theorem wv_orV {Q : Rho → D → Prop} (h : WV g ta ρ fun ρ1 x => ∃ c, x = .bl c ∧ (c = true → Q ρ1 (.bl true)) ∧ (c = false → WV g tb ρ1 Q)) : WV g (tOrV ta tb) ρ Q := fun σ H0 H1 S T Qv k =>
  h σ H0 H1 S T _ fun v H0' H1' ρ' x st S' rx ⟨c, e, q1, q2⟩ => by
    subst e
    refine ⟨c, rx, ?_⟩
    cases c with
    | true => exact k _ H0' H1' ρ' (.bl true) st S' rfl (q1 rfl)
    | false => exact q2 rfl σ H0' H1' S' (T.step st) Qv fun z H03 H13 ρ3 b st3 S3 rz qz => k z H03 H13 ρ3 b (st.trans st3) S3 rz qz
theorem wv_notV {Q : Rho → D → Prop} (h : WV g ta ρ fun ρ1 x => ∃ c, x = .bl c ∧ Q ρ1 (.bl (!c))) : WV g (tNotV ta) ρ Q := fun σ H0 H1 S T Qv k =>
  h σ H0 H1 S T _ fun v H0' H1' ρ' x st S' rx ⟨c, e, q⟩ => by
    subst e
    exact ⟨c, rx, k _ H0' H1' ρ' _ st S' rep_bl q⟩
theorem wv_if {Q : Rho → D → Prop} (h : WT g tt ρ fun ρ1 c => (c = true → WV g ta ρ1 Q) ∧ (c = false → WV g tb ρ1 Q)) : WV g (tIf tt ta tb) ρ Q := fun σ H0 H1 S T Qv k =>
  h σ H0 H1 S T _ fun H0' H1' ρ' c st S' q => by
    cases c with
    | true => exact q.1 rfl σ H0' H1' S' (T.step st) Qv fun z H03 H13 ρ3 b st3 S3 rz qz => k z H03 H13 ρ3 b (st.trans st3) S3 rz qz
    | false => exact q.2 rfl σ H0' H1' S' (T.step st) Qv fun z H03 H13 ρ3 b st3 S3 rz qz => k z H03 H13 ρ3 b (st.trans st3) S3 rz qz
/-! ### argument lists, as data -/
def WA (g : G) (t : TA) (ρ : Rho) (Q : Rho → List D → Prop) : Prop := ∀ σ H0 H1, Sat g.X.K H0 H1 σ ρ → Tk g σ ρ H0 H1 → ∀ Qv : List V → Hp → Prop,
  (∀ vs H0' H1' ρ' ds, Step σ ρ H0 H1 σ ρ' H0' H1' → Sat g.X.K H0' H1' σ ρ' → Reps g.X.K H0' vs ds → Q ρ' ds → Qv vs H1') → t σ H1 Qv
abbrev GoA (g : G) (es : List Expr) (ρ : Rho) (Q : Rho → List D → Prop) : Prop := WA g (tXA g.X es) ρ Q
theorem wa_nil {Q : Rho → List D → Prop} (k : Q ρ []) : WA g tNil ρ Q := fun σ H0 H1 S T Qv q => q [] H0 H1 ρ [] Step.refl S rfl k
theorem wa_cons {t : TA} {Q : Rho → List D → Prop} (h : WV g te ρ fun ρ1 x => WA g t ρ1 fun ρ2 xs => Q ρ2 (x :: xs)) : WA g (tCons te t) ρ Q := fun σ H0 H1 S T Qv k =>
  h σ H0 H1 S T _ fun v H0' H1' ρ' x st S' rx q => q σ H0' H1' S' (T.step st) _ fun vs H0'' H1'' ρ'' xs st' S'' ry q' =>
    k (v :: vs) H0'' H1'' ρ'' (x :: xs) (st.trans st') S'' (Reps.cons (rx.mono st'.kn) ry) q'
theorem a_of {es : List Expr} {t : TA} {Q : Rho → List D → Prop} (p : PA g.X es t) (h : WA g t ρ Q) : GoA g es ρ Q := fun σ H0 H1 S T Qv k pos pins s I => p.run pos pins s σ H1 Qv I (h σ H0 H1 S T Qv k)
theorem a_nil {Q : Rho → List D → Prop} (k : Q ρ []) : GoA g [] ρ Q := a_of pa_nil (wa_nil k)
theorem a_cons {e : Expr} {es : List Expr} {Q : Rho → List D → Prop} (h : GoV g e ρ fun ρ1 x => GoA g es ρ1 fun ρ2 xs => Q ρ2 (x :: xs)) (hs : starEach (e :: es) g.X.env = (false, eval e g.X.env) :: starEach es g.X.env := by rfl) : GoA g (e :: es) ρ Q := a_of (pa_cons pX pXA hs) (wa_cons h)
/-- a built-in's call on data in hand -/
def RC (g : G) (r : List V → Hp → VK → Prop) (xs : List D) (ρ : Rho) (Q : Rho → D → Prop) : Prop := ∀ σ H0 H1, Sat g.X.K H0 H1 σ ρ → Tk g σ ρ H0 H1 → ∀ vs, Reps g.X.K H0 vs xs → ∀ Qv : VK,
  (∀ z H0' H1' ρ' d, Step σ ρ H0 H1 σ ρ' H0' H1' → Sat g.X.K H0' H1' σ ρ' → Rep g.X.K H0' z d → Q ρ' d → Qv z H1') → r vs H1 Qv
def RCE (g : G) (r : List V → Hp → VK → Prop) (xs : List D) (ρ : Rho) (Q : Rho → A → Prop) : Prop := ∀ σ H0 H1, Sat g.X.K H0 H1 σ ρ → Tk g σ ρ H0 H1 → ∀ vs, Reps g.X.K H0 vs xs → ∀ Qv : VK,
  (∀ z H0' H1' ρ' a, Step σ ρ H0 H1 σ ρ' H0' H1' → Sat g.X.K H0' H1' σ ρ' → Res g.X.K H1 σ ρ' H0' H1' z a → Q ρ' a → Qv z H1') → r vs H1 Qv
theorem wv_cb {t : TA} {r : List V → Hp → VK → Prop} {Q : Rho → D → Prop} (h : WA g t ρ fun ρ1 xs => RC g r xs ρ1 Q) : WV g (tCB r t) ρ Q := fun σ H0 H1 S T Qv k =>
  h σ H0 H1 S T _ fun vs H0' H1' ρ' xs st S' rx q => q σ H0' H1' S' (T.step st) vs rx Qv fun z H03 H13 ρ3 d st3 S3 rz qz => k z H03 H13 ρ3 d (st.trans st3) S3 rz qz
theorem we_cb {t : TA} {r : List V → Hp → VK → Prop} {Q : Rho → A → Prop} (h : WA g t ρ fun ρ1 xs => RCE g r xs ρ1 Q) : WE g (tCB r t) ρ Q := fun σ H0 H1 S T Qv k =>
  h σ H0 H1 S T _ fun vs H0' H1' ρ' xs st S' rx q => q σ H0' H1' S' (T.step st) vs rx Qv fun z H03 H13 ρ3 d st3 S3 rz qz => k z H03 H13 ρ3 d (st.trans st3) S3 (res_back rz fun p e => st.dom p e) qz
/-! ### displays -/
theorem wv_tup {t : TA} {Q : Rho → D → Prop} (h : WA g t ρ fun ρ1 xs => xs.length ≤ 100000 ∧ Q ρ1 (.tup xs)) : WV g (tTup t) ρ Q := fun σ H0 H1 S T Qv k =>
  h σ H0 H1 S T _ fun vs H0' H1' ρ' xs st S' rx ⟨hl, q⟩ => ⟨by rw [rx.length]; exact Nat.le_trans hl (by decide), fun p hp => by
    obtain ⟨S2, st2⟩ := sat_new (u := .tup vs) S' hp
    exact k _ _ _ ρ' _ (st.trans st2) S2 (rep_tup (SqT.of upd_same) (rx.mono st2.kn)) q⟩
theorem we_lst {t : TA} {Q : Rho → A → Prop} (h : WA g t ρ fun ρ1 xs => xs.length ≤ 100000 ∧ Q ρ1 (.own false (.lst xs))) : WE g (tLst t) ρ Q := fun σ H0 H1 S T Qv k =>
  h σ H0 H1 S T _ fun vs H0' H1' ρ' xs st S' rx ⟨hl, q⟩ => ⟨by rw [rx.length]; exact Nat.le_trans hl (by decide), fun p hp => by
    obtain ⟨S2, st2, h0, hc⟩ := sat_mine (u := .lst vs) S' hp
    exact k _ _ _ ρ' _ (st.trans st2) S2 (res_lst h0 (st.dom p hp) hc upd_same rx) q⟩
end

/-! ### the context's facts -/
/-- a local name's slot: read; stored -/
structure SlotV (X : Cx) (x : Str) (i : Nat) : Prop where
  hN : X.N[i]? = some x
  hv : Vis X.env.scope x
  hd : (x == ("__debug__" : Str)) = false
  hc : (x == ("__classdict__" : Str)) = false
structure SlotW (X : Cx) (x : Str) (i : Nat) : Prop where
  nd : X.N.Nodup
  hN : X.N[i]? = some x
  hl : Loc X.env.scope x
  hf : X.fn x = true ∨ X.env.scope.names.lookup x = some .local
/-- a built-in's name -/
structure Blt (X : Cx) (x : Str) (u : Value) : Prop where
  hg : Gl X x
  hm : X.mg x = none
  hv : bootBuiltins x = some u
  hn : x ≠ "__name__"
  hd : (x == ("__debug__" : Str)) = false
/-- a module's constant -/
structure Glo (X : Cx) (x : Str) (d : D) : Prop where
  hg : Gl X x
  hd : (x == ("__debug__" : Str)) = false
  ex : ∃ u v, X.mg x = some u ∧ RelV v u ∧ ∀ H, Rep X.K H v d
/-- the walk's place -/
structure Ct (X : Cx) (k : Nat) : Prop where
  room : Room k X.A
  calm : X.calm = true
  po : PassesOwn (model X.prog X.w) X.A X.env X.xe
  nd : X.N.Nodup
  kind : X.env.scope.kind = .function
/-- a plain local name -/
def Lcl (X : Cx) (x : Str) : Prop := X.env.scope.names.lookup x = some .local

section
variable {g : G} {k : Nat} {ρ : Rho} {a b c e : Expr} {es : List Expr} {pos p p2 : Pos} {j i : Nat} {x : Str} {Q : Rho → D → Prop} {R : Rho → Bool → Prop}
theorem g_int {n : Int} (h : Q ρ (.int n)) : GoV g (.Constant (.int n) j pos) ρ Q := v_of pe_int (wv_c (fun _ => rep_int) h)
theorem g_str {s : Str} (h : Q ρ (.str s)) : GoV g (.Constant (.str s) j pos) ρ Q := v_of pe_str (wv_c (fun _ => rep_str) h)
theorem g_bl {s : Bool} (h : Q ρ (.bl s)) : GoV g (.Constant (.bool s) j pos) ρ Q := v_of pe_bl (wv_c (fun _ => rep_bl) h)
theorem g_non (h : Q ρ .non) : GoV g (.Constant .none j pos) ρ Q := v_of pe_non (wv_c (fun _ => rep_nn) h)
theorem g_var {d : D} (s : SlotV g.X x i) (h : ρ[i]? = some (some (.val d))) (q : Q ρ d) : GoV g (.Name x pos) ρ Q := v_of (pe_var s.hN s.hv s.hd s.hc) (wv_var h q)
theorem g_glob {d : D} (s : Glo g.X x d) (q : Q ρ d) : GoV g (.Name x pos) ρ Q := by
  obtain ⟨u, v, h1, h2, h3⟩ := s.ex
  exact v_of (pe_glob s.hg h1 h2 s.hd) (wv_c h3 q)
theorem g_tup (h : GoA g es ρ fun ρ1 xs => xs.length ≤ 100000 ∧ Q ρ1 (.tup xs)) {x1} : GoV g (.Tuple es x1 pos) ρ Q := v_of (pe_tup pXA) (wv_tup h)
theorem g_lst {Q : Rho → A → Prop} (h : GoA g es ρ fun ρ1 xs => xs.length ≤ 100000 ∧ Q ρ1 (.own false (.lst xs))) : GoE g (.List es pos) ρ Q := e_of (pe_lst pXA) (we_lst h)
/-! ints -/
theorem rv_ints0 {f : Int → Int → V} {d : D} {m n : Int} (hr : ∀ H, Rep g.X.K H (f m n) d) (q : Q ρ d) : RV g (rI0 f) (.int m) (.int n) ρ Q := fun σ H0 H1 S T v u h1 h2 Qv k =>
  ⟨m, n, h1, h2, k _ _ _ _ _ Step.refl S (hr H0) q⟩
theorem rv_ints {C : Int → Int → Prop} {f : Int → Int → V} {d : D} {m n : Int} (hc : C m n) (hr : ∀ H, Rep g.X.K H (f m n) d) (q : Q ρ d) : RV g (rI C f) (.int m) (.int n) ρ Q := fun σ H0 H1 S T v u h1 h2 Qv k =>
  ⟨m, n, h1, h2, hc, k _ _ _ _ _ Step.refl S (hr H0) q⟩
theorem g_add (h : GoV g a ρ fun ρ1 x => ∃ m, x = .int m ∧ GoV g b ρ1 fun ρ2 y => ∃ n, y = .int n ∧ Q ρ2 (.int (m + n))) : GoV g (.BinOp a .Add b pos) ρ Q :=
  v_of (pe_op op_add pX pX) (wv_op (h.imp fun r d ⟨m, e, h'⟩ => h'.imp fun r' d' ⟨n, e', q⟩ => by subst e; subst e'; exact rv_ints0 (fun _ => rep_int) q))
theorem g_sub (h : GoV g a ρ fun ρ1 x => ∃ m, x = .int m ∧ GoV g b ρ1 fun ρ2 y => ∃ n, y = .int n ∧ Q ρ2 (.int (m - n))) : GoV g (.BinOp a .Sub b pos) ρ Q :=
  v_of (pe_op op_sub pX pX) (wv_op (h.imp fun r d ⟨m, e, h'⟩ => h'.imp fun r' d' ⟨n, e', q⟩ => by subst e; subst e'; exact rv_ints0 (fun _ => rep_int) q))
/-- together below a million bits -/
theorem g_mul (h : GoV g a ρ fun ρ1 x => ∃ m, x = .int m ∧ GoV g b ρ1 fun ρ2 y => ∃ n, y = .int n ∧ CMulW m n ∧ Q ρ2 (.int (m * n))) : GoV g (.BinOp a .Mult b pos) ρ Q :=
  v_of (pe_op op_mulW pX pX) (wv_op (h.imp fun r d ⟨m, e, h'⟩ => h'.imp fun r' d' ⟨n, e', hc, q⟩ => by subst e; subst e'; exact rv_ints hc (fun _ => rep_int) q))
/-- one factor within 2^64 -/
theorem g_mulS (h : GoV g a ρ fun ρ1 x => ∃ m, x = .int m ∧ GoV g b ρ1 fun ρ2 y => ∃ n, y = .int n ∧ CMul m n ∧ Q ρ2 (.int (m * n))) : GoV g (.BinOp a .Mult b pos) ρ Q :=
  v_of (pe_op op_mul pX pX) (wv_op (h.imp fun r d ⟨m, e, h'⟩ => h'.imp fun r' d' ⟨n, e', hc, q⟩ => by subst e; subst e'; exact rv_ints hc (fun _ => rep_int) q))
/-- % by a positive number -/
theorem g_mod (h : GoV g a ρ fun ρ1 x => ∃ m, x = .int m ∧ GoV g b ρ1 fun ρ2 y => ∃ n, y = .int n ∧ 0 < n ∧ Q ρ2 (.int (m % n))) : GoV g (.BinOp a .Mod b pos) ρ Q :=
  v_of (pe_op op_mod pX pX) (wv_op (h.imp fun r d ⟨m, e, h'⟩ => h'.imp fun r' d' ⟨n, e', hc, q⟩ => by subst e; subst e'; exact rv_ints (C := fun _ j => 0 < j) hc (fun _ => rep_int) q))
def CFd (_ j : Int) : Prop := j ≠ 0 ∧ j.natAbs.log2 < 9000
theorem op_fdW {X : Cx} : OpR X (binaryOp .FloorDiv) (rI CFd fun i j => .int (i.fdiv j)) := opI fun _ _ _ _ _ _ _ hc q => floordiv_int hc.1 q (.inl (PyProof.noPylong_of_log2 hc.2))
/-- // by a number below 2^9000 -/
theorem g_fdiv (h : GoV g a ρ fun ρ1 x => ∃ m, x = .int m ∧ GoV g b ρ1 fun ρ2 y => ∃ n, y = .int n ∧ CFd m n ∧ Q ρ2 (.int (m.fdiv n))) : GoV g (.BinOp a .FloorDiv b pos) ρ Q :=
  v_of (pe_op op_fdW pX pX) (wv_op (h.imp fun r d ⟨m, e, h'⟩ => h'.imp fun r' d' ⟨n, e', hc, q⟩ => by subst e; subst e'; exact rv_ints hc (fun _ => rep_int) q))
theorem g_pow (h : GoV g a ρ fun ρ1 x => ∃ m, x = .int m ∧ GoV g b ρ1 fun ρ2 y => ∃ n, y = .int n ∧ CPow m n ∧ Q ρ2 (.int (m ^ n.toNat))) : GoV g (.BinOp a .Pow b pos) ρ Q :=
  v_of (pe_op op_pow pX pX) (wv_op (h.imp fun r d ⟨m, e, h'⟩ => h'.imp fun r' d' ⟨n, e', hc, q⟩ => by subst e; subst e'; exact rv_ints hc (fun _ => rep_int) q))
theorem g_shl (h : GoV g a ρ fun ρ1 x => ∃ m, x = .int m ∧ GoV g b ρ1 fun ρ2 y => ∃ n, y = .int n ∧ CPow m n ∧ Q ρ2 (.int (m * 2 ^ n.toNat))) : GoV g (.BinOp a .LShift b pos) ρ Q :=
  v_of (pe_op op_shl pX pX) (wv_op (h.imp fun r d ⟨m, e, h'⟩ => h'.imp fun r' d' ⟨n, e', hc, q⟩ => by subst e; subst e'; exact rv_ints hc (fun _ => rep_int) q))
theorem g_neg (h : GoV g a ρ fun ρ1 x => ∃ m, x = .int m ∧ Q ρ1 (.int (-m))) : GoV g (.UnaryOp .USub a pos) ρ Q :=
  v_of (pe_un un_neg pX) (wv_un (h.imp fun r d ⟨m, e, q⟩ => by subst e; exact fun σ H0 H1 S T v h1 Qv k => ⟨m, h1, k _ _ _ _ _ Step.refl S rep_int q⟩))
/-! texts -/
theorem g_addS (h : GoV g a ρ fun ρ1 x => ∃ m, x = .str m ∧ GoV g b ρ1 fun ρ2 y => ∃ n, y = .str n ∧ m.length + n.length ≤ 100000 ∧ Q ρ2 (.str (m ++ n))) : GoV g (.BinOp a .Add b pos) ρ Q :=
  v_of (pe_op op_add_str pX pX) (wv_op (h.imp fun r d ⟨m, e, h'⟩ => h'.imp fun r' d' ⟨n, e', hc, q⟩ => by
    subst e; subst e'
    exact fun σ H0 H1 S T v u h1 h2 Qv k => ⟨m, n, h1, h2, Nat.le_trans hc (by decide), k _ _ _ _ _ Step.refl S rep_str q⟩))
/-! comparisons of ints, as values and as tests -/
theorem rv_cmp {f : Int → Int → Bool} {m n : Int} (q : Q ρ (.bl (f m n))) : RV g (rI0 fun i j => .bl (f i j)) (.int m) (.int n) ρ Q := rv_ints0 (fun _ => rep_bl) q
/-- a comparison by its rule: as a value, as a test -/
theorem c_val {op : CmpOp} {r : R2} (ho : OpR g.X (compareOp op) r) (h : GoV g a ρ fun ρ1 x => GoV g b ρ1 fun ρ2 y => RV g r x y ρ2 Q) (hm : behindInMarks op b = false) : GoV g (.Compare a [op] [b] pos) ρ Q :=
  v_of (pe_cmpR ho pX pX hm) (wv_op h)
theorem c_test {op : CmpOp} {r : R2} (ho : OpR g.X (compareOp op) r) (h : GoV g a ρ fun ρ1 x => GoV g b ρ1 fun ρ2 y => RV g r x y ρ2 fun ρ3 d => ∃ b, d = .bl b ∧ R ρ3 b) (hm : behindInMarks op b = false) : GoT g (.Compare a [op] [b] pos) ρ R :=
  t_of (pt_cmpR ho pX pX hm) (wt_test (wv_op h))
theorem t_lt (h : GoV g a ρ fun ρ1 x => ∃ m, x = .int m ∧ GoV g b ρ1 fun ρ2 y => ∃ n, y = .int n ∧ R ρ2 (decide (m < n))) : GoT g (.Compare a [.Lt] [b] pos) ρ R :=
  c_test op_lt (h.imp fun r d ⟨m, e, h'⟩ => h'.imp fun r' d' ⟨n, e', q⟩ => by subst e; subst e'; exact rv_cmp ⟨_, rfl, q⟩) (nomark _)
theorem t_le (h : GoV g a ρ fun ρ1 x => ∃ m, x = .int m ∧ GoV g b ρ1 fun ρ2 y => ∃ n, y = .int n ∧ R ρ2 (decide (m ≤ n))) : GoT g (.Compare a [.LtE] [b] pos) ρ R :=
  c_test op_le (h.imp fun r d ⟨m, e, h'⟩ => h'.imp fun r' d' ⟨n, e', q⟩ => by subst e; subst e'; exact rv_cmp ⟨_, rfl, q⟩) (nomark _)
theorem t_gt (h : GoV g a ρ fun ρ1 x => ∃ m, x = .int m ∧ GoV g b ρ1 fun ρ2 y => ∃ n, y = .int n ∧ R ρ2 (decide (n < m))) : GoT g (.Compare a [.Gt] [b] pos) ρ R :=
  c_test op_gt (h.imp fun r d ⟨m, e, h'⟩ => h'.imp fun r' d' ⟨n, e', q⟩ => by subst e; subst e'; exact rv_cmp ⟨_, rfl, q⟩) (nomark _)
theorem t_ge (h : GoV g a ρ fun ρ1 x => ∃ m, x = .int m ∧ GoV g b ρ1 fun ρ2 y => ∃ n, y = .int n ∧ R ρ2 (decide (n ≤ m))) : GoT g (.Compare a [.GtE] [b] pos) ρ R :=
  c_test op_ge (h.imp fun r d ⟨m, e, h'⟩ => h'.imp fun r' d' ⟨n, e', q⟩ => by subst e; subst e'; exact rv_cmp ⟨_, rfl, q⟩) (nomark _)
theorem g_lt (h : GoV g a ρ fun ρ1 x => ∃ m, x = .int m ∧ GoV g b ρ1 fun ρ2 y => ∃ n, y = .int n ∧ Q ρ2 (.bl (decide (m < n)))) : GoV g (.Compare a [.Lt] [b] pos) ρ Q :=
  c_val op_lt (h.imp fun r d ⟨m, e, h'⟩ => h'.imp fun r' d' ⟨n, e', q⟩ => by subst e; subst e'; exact rv_cmp q) (nomark _)
theorem g_le (h : GoV g a ρ fun ρ1 x => ∃ m, x = .int m ∧ GoV g b ρ1 fun ρ2 y => ∃ n, y = .int n ∧ Q ρ2 (.bl (decide (m ≤ n)))) : GoV g (.Compare a [.LtE] [b] pos) ρ Q :=
  c_val op_le (h.imp fun r d ⟨m, e, h'⟩ => h'.imp fun r' d' ⟨n, e', q⟩ => by subst e; subst e'; exact rv_cmp q) (nomark _)
theorem g_gt (h : GoV g a ρ fun ρ1 x => ∃ m, x = .int m ∧ GoV g b ρ1 fun ρ2 y => ∃ n, y = .int n ∧ Q ρ2 (.bl (decide (n < m)))) : GoV g (.Compare a [.Gt] [b] pos) ρ Q :=
  c_val op_gt (h.imp fun r d ⟨m, e, h'⟩ => h'.imp fun r' d' ⟨n, e', q⟩ => by subst e; subst e'; exact rv_cmp q) (nomark _)
/-- == and != of scalars of one kind -/
def sc : D → D → Bool
  | .int _, .int _ => true
  | .str _, .str _ => true
  | .bl _, .bl _ => true
  | .non, .non => true
  | _, _ => false
def eqS : D → D → Bool
  | .int m, .int n => decide (m = n)
  | .str m, .str n => decide (m = n)
  | .bl m, .bl n => decide (m = n)
  | .non, .non => true
  | _, _ => false
theorem sc_scal {K : PySem.W.Frag} {H : Hp} {v u : V} {m n : D} (h : sc m n = true) (h1 : Rep K H v m) (h2 : Rep K H u n) : scal v u = true ∧ decide (v = u) = eqS m n := by
  unfold sc at h
  split at h
  · cases (show v = _ from h1); cases (show u = _ from h2)
    exact ⟨rfl, by simp [eqS]⟩
  · cases (show v = _ from h1); cases (show u = _ from h2)
    exact ⟨rfl, by simp [eqS]⟩
  · cases (show v = _ from h1); cases (show u = _ from h2)
    exact ⟨rfl, by simp [eqS]⟩
  · cases (show v = _ from h1); cases (show u = _ from h2)
    exact ⟨rfl, rfl⟩
  · cases h
theorem rv_eqS {m n : D} (h : sc m n = true) (q : Q ρ (.bl (eqS m n))) : RV g rEq m n ρ Q := fun σ H0 H1 S T v u h1 h2 Qv k => by
  obtain ⟨z1, z2⟩ := sc_scal h h1 h2
  exact ⟨z1, k _ _ _ _ _ Step.refl S (by rw [z2]; exact rep_bl) q⟩
theorem rv_neS {m n : D} (h : sc m n = true) (q : Q ρ (.bl (!eqS m n))) : RV g rNe m n ρ Q := fun σ H0 H1 S T v u h1 h2 Qv k => by
  obtain ⟨z1, z2⟩ := sc_scal h h1 h2
  exact ⟨z1, k _ _ _ _ _ Step.refl S (by rw [z2]; exact rep_bl) q⟩
theorem t_eq (h : GoV g a ρ fun ρ1 x => GoV g b ρ1 fun ρ2 y => sc x y = true ∧ R ρ2 (eqS x y)) : GoT g (.Compare a [.Eq] [b] pos) ρ R :=
  c_test op_eq (h.imp fun r d h' => h'.imp fun r' d' ⟨s, q⟩ => rv_eqS s ⟨_, rfl, q⟩) (nomark _)
theorem t_ne (h : GoV g a ρ fun ρ1 x => GoV g b ρ1 fun ρ2 y => sc x y = true ∧ R ρ2 (!eqS x y)) : GoT g (.Compare a [.NotEq] [b] pos) ρ R :=
  c_test op_ne (h.imp fun r d h' => h'.imp fun r' d' ⟨s, q⟩ => rv_neS s ⟨_, rfl, q⟩) (nomark _)
theorem g_eq (h : GoV g a ρ fun ρ1 x => GoV g b ρ1 fun ρ2 y => sc x y = true ∧ Q ρ2 (.bl (eqS x y))) : GoV g (.Compare a [.Eq] [b] pos) ρ Q :=
  c_val op_eq (h.imp fun r d h' => h'.imp fun r' d' ⟨s, q⟩ => rv_eqS s q) (nomark _)
theorem g_ne (h : GoV g a ρ fun ρ1 x => GoV g b ρ1 fun ρ2 y => sc x y = true ∧ Q ρ2 (.bl (!eqS x y))) : GoV g (.Compare a [.NotEq] [b] pos) ρ Q :=
  c_val op_ne (h.imp fun r d h' => h'.imp fun r' d' ⟨s, q⟩ => rv_neS s q) (nomark _)
/-- is None -/
def isN : D → Bool
  | .non => true
  | _ => false
theorem rep_non {K : PySem.W.Frag} {H : Hp} {v : V} {d : D} (h : Rep K H v d) : decide (v = .non) = isN d := by
  cases d with
  | non => cases (show v = _ from h); rfl
  | bl _ => cases (show v = _ from h); rfl
  | int _ => cases (show v = _ from h); rfl
  | str _ => cases (show v = _ from h); rfl
  | ref _ => cases (show v = _ from h); rfl
  | ty _ => cases (show v = _ from h); rfl
  | tup _ => obtain ⟨a, vs, rfl, _⟩ := h; rfl
  | lst _ => obtain ⟨a, vs, rfl, _⟩ := h; rfl
  | rdl _ => obtain ⟨a, vs, rfl, _⟩ := h; rfl
  | dic _ _ => obtain ⟨a, vs, rfl, _⟩ := h; rfl
  | fdc _ _ => obtain ⟨a, o, vs, rfl, _⟩ := h; rfl
  | exc _ => obtain ⟨a, oe, rfl, _⟩ := h; rfl
theorem t_isN {p1 : Pos} (h : GoV g a ρ fun ρ1 x => R ρ1 (isN x)) : GoT g (.Compare a [.Is] [.Constant .none j p1] pos) ρ R :=
  c_test op_isN (h.imp fun r d q => g_non (fun σ H0 H1 S T v u h1 h2 Qv k => ⟨h2, k _ _ _ _ _ Step.refl S rep_bl ⟨_, rfl, by rw [rep_non h1]; exact q⟩⟩)) (nomark _)
theorem t_notN {p1 : Pos} (h : GoV g a ρ fun ρ1 x => R ρ1 (!isN x)) : GoT g (.Compare a [.IsNot] [.Constant .none j p1] pos) ρ R :=
  c_test op_notN (h.imp fun r d q => g_non (fun σ H0 H1 S T v u h1 h2 Qv k => ⟨h2, k _ _ _ _ _ Step.refl S rep_bl ⟨_, rfl, by rw [rep_non h1]; exact q⟩⟩)) (nomark _)
theorem g_isN {p1 : Pos} (h : GoV g a ρ fun ρ1 x => Q ρ1 (.bl (isN x))) : GoV g (.Compare a [.Is] [.Constant .none j p1] pos) ρ Q :=
  c_val op_isN (h.imp fun r d q => g_non (fun σ H0 H1 S T v u h1 h2 Qv k => ⟨h2, k _ _ _ _ _ Step.refl S (by rw [rep_non h1]; exact rep_bl) q⟩)) (nomark _)
/-! chains: a op b op' c -/
theorem c_chainV {op op' : CmpOp} {r r' : R2} (ho : OpR g.X (compareOp op) r) (ho' : OpR g.X (compareOp op') r')
    (h : GoV g a ρ fun ρ1 x => GoV g b ρ1 fun ρ2 y => RV g r x y ρ2 fun ρ3 z => ∃ k, z = .bl k ∧ (k = true → GoV g c ρ3 fun ρ4 u => RV g r' y u ρ4 Q) ∧ (k = false → Q ρ3 (.bl false)))
    (hm : behindInMarks op b = false) (hm' : behindInMarks op' c = false) : True := trivial
/-! not, and, or, if -/
theorem t_not (h : GoT g a ρ fun ρ1 c => R ρ1 (!c)) : GoT g (.UnaryOp .Not a pos) ρ R := t_of (pt_not pXT) (wt_not h)
theorem t_and (h : GoW g (.BoolOp .And es pos) ρ R) : GoT g (.BoolOp .And es pos) ρ R := t_w h
theorem t_or (h : GoW g (.BoolOp .Or es pos) ρ R) : GoT g (.BoolOp .Or es pos) ρ R := t_w h
theorem w_and (h : GoT g a ρ fun ρ1 k => (k = true → GoW g (.BoolOp .And (b :: es) pos) ρ1 R) ∧ (k = false → R ρ1 false)) : GoW g (.BoolOp .And (a :: b :: es) pos) ρ R := w_of (pw_and pXT pXW) (wt_and h)
theorem w_and1 (h : GoT g a ρ R) : GoW g (.BoolOp .And [a] pos) ρ R := w_of (pw_and1 pXT) h
theorem w_or (h : GoT g a ρ fun ρ1 k => (k = true → R ρ1 true) ∧ (k = false → GoW g (.BoolOp .Or (b :: es) pos) ρ1 R)) : GoW g (.BoolOp .Or (a :: b :: es) pos) ρ R := w_of (pw_or pXT pXW) (wt_or h)
theorem w_or1 (h : GoT g a ρ R) : GoW g (.BoolOp .Or [a] pos) ρ R := w_of (pw_or1 pXT) h
theorem g_and (h : GoV g a ρ fun ρ1 x => ∃ k, x = .bl k ∧ (k = true → GoV g (.BoolOp .And (b :: es) pos) ρ1 Q) ∧ (k = false → Q ρ1 (.bl false))) : GoV g (.BoolOp .And (a :: b :: es) pos) ρ Q := v_of (pe_and pX pX) (wv_andV h)
theorem g_or (h : GoV g a ρ fun ρ1 x => ∃ k, x = .bl k ∧ (k = true → Q ρ1 (.bl true)) ∧ (k = false → GoV g (.BoolOp .Or (b :: es) pos) ρ1 Q)) : GoV g (.BoolOp .Or (a :: b :: es) pos) ρ Q := v_of (pe_or pX pX) (wv_orV h)
theorem g_one {op} (h : GoV g a ρ Q) : GoV g (.BoolOp op [a] pos) ρ Q := v_of (pe_one pX) h
theorem g_not (h : GoV g a ρ fun ρ1 x => ∃ k, x = .bl k ∧ Q ρ1 (.bl (!k))) : GoV g (.UnaryOp .Not a pos) ρ Q := v_of (pe_not pX) (wv_notV h)
theorem g_ifx (h : GoT g c ρ fun ρ1 k => (k = true → GoV g a ρ1 Q) ∧ (k = false → GoV g b ρ1 Q)) : GoV g (.IfExp c a b pos) ρ Q := v_of (pe_ifExp pXT pX pX) (wv_if h)
/-- an expression that gives True or False, as a test -/
theorem t_val (h : GoV g e ρ fun ρ1 x => ∃ k, x = .bl k ∧ R ρ1 k) (he : ∀ whole, isTrue e g.X.env whole = (do let v ← whole; standAt e.pos; holding [v] (truthy v)) := by intro _; rfl) : GoT g e ρ R := t_of (pt_val pX he) (wt_B h)
end
end FW

set_option Elab.async false
set_option linter.all false
set_option maxRecDepth 100000
set_option maxHeartbeats 4000000
namespace FW
open PySem PySem.Spec PyProof.Rows L2

/-- no lent object stands in the slot -/
def npar (ρ : Rho) (i : Nat) : Bool := match ρ[i]? with
  | some (some (.own true _)) => false
  | _ => true
theorem npar_no {ρ : Rho} {i : Nat} {o : O} (h : npar ρ i = true) (e : ρ[i]? = some (some (.own true o))) : False := by
  unfold npar at h
  rw [e] at h
  cases h
/-- what goes into a slot -/
def A.loc : A → A
  | .val d => .val d
  | .own _ o => .own false o

section
variable {K : PySem.W.Frag} {σ σ' : L2.St} {ρ ρ' : Rho} {H0 H1 H0' H1' Hb : Hp} {i : Nat}
theorem get_set_ne {α : Type} {l : List α} {i j : Nat} {x : α} (h : j ≠ i) : (l.set i x)[j]? = l[j]? := List.getElem?_set_ne (Ne.symm h)
theorem sat_set {v : V} {d : D} (S : Sat K H0 H1 σ ρ) (r : Rep K H0 v d) : Sat K H0 H1 (σ.set i (some v)) (ρ.set i (some (.val d))) := by
  have cel : ∀ j p, OwnS (σ.set i (some v)) (ρ.set i (some (.val d))) j p → j ≠ i ∧ OwnS σ ρ j p := fun j p ⟨⟨b, o, e1⟩, e2⟩ => by
    by_cases z : j = i
    · subst z
      by_cases hl : j < ρ.length
      · rw [List.getElem?_set_self hl] at e1; cases e1
      · rw [List.getElem?_eq_none (by simpa using Nat.le_of_not_lt hl)] at e1; cases e1
    · rw [get_set_ne z] at e1 e2
      exact ⟨z, ⟨b, o, e1⟩, e2⟩
  refine ⟨S.sub, fun j d' e => ?_, fun j b o e => ?_, fun j k p h1 h2 => S.dist j k p (cel j p h1).2 (cel k p h2).2, by simp [S.len]⟩
  · by_cases z : j = i
    · subst z
      have hl : j < ρ.length := by
        have := (List.getElem?_eq_some_iff.mp e).1
        simpa using this
      rw [List.getElem?_set_self hl] at e; cases e
      exact ⟨v, List.getElem?_set_self (by rw [S.len]; exact hl), r⟩
    · rw [get_set_ne z] at e
      rw [get_set_ne z]
      exact S.val j d' e
  · by_cases z : j = i
    · subst z
      have hl : j < ρ.length := by
        have := (List.getElem?_eq_some_iff.mp e).1
        simpa using this
      rw [List.getElem?_set_self hl] at e; cases e
    · rw [get_set_ne z] at e
      rw [get_set_ne z]
      exact S.own j b o e
/-- a slot is forgotten -/
theorem sat_gone (S : Sat K H0 H1 σ ρ) : Sat K H0 H1 σ (ρ.set i none) := by
  have sub : ∀ j (x : A), (ρ.set i none)[j]? = some (some x) → j ≠ i ∧ ρ[j]? = some (some x) := fun j x e => by
    by_cases z : j = i
    · subst z
      by_cases hl : j < ρ.length
      · rw [List.getElem?_set_self hl] at e; cases e
      · rw [List.getElem?_eq_none (by simpa using Nat.le_of_not_lt hl)] at e; cases e
    · rw [get_set_ne z] at e
      exact ⟨z, e⟩
  exact ⟨S.sub, fun j d e => S.val j d (sub j _ e).2, fun j b o e => S.own j b o (sub j _ e).2, fun j k p ⟨⟨b, o, h1⟩, h2⟩ ⟨⟨b', o', h3⟩, h4⟩ => S.dist j k p ⟨⟨b, o, (sub j _ h1).2⟩, h2⟩ ⟨⟨b', o', (sub k _ h3).2⟩, h4⟩, by simp [S.len]⟩
theorem cell_gone {p : Addr} (h : Cell σ (ρ.set i none) p) : Cell σ ρ p := by
  obtain ⟨j, ⟨b, o, e⟩, e2⟩ := h
  by_cases z : j = i
  · subst z
    by_cases hl : j < ρ.length
    · rw [List.getElem?_set_self hl] at e; cases e
    · rw [List.getElem?_eq_none (by simpa using Nat.le_of_not_lt hl)] at e; cases e
  · rw [get_set_ne z] at e
    exact ⟨j, ⟨b, o, e⟩, e2⟩
theorem step_gone (np : npar ρ i = true) : Step σ ρ H0 H1 σ (ρ.set i none) H0 H1 :=
  ⟨L2.Same.refl _, fun _ _ h => .inl h, fun _ _ h _ => h, fun _ h => h, fun _ h => .inl (cell_gone h), fun j p ⟨⟨o, e⟩, e2⟩ => by
    by_cases z : j = i
    · subst z; exact (npar_no np e).elim
    · exact ⟨⟨o, by rw [get_set_ne z]; exact e⟩, e2⟩⟩
theorem step_set {v : V} {d : D} (np : npar ρ i = true) : Step σ ρ H0 H1 (σ.set i (some v)) (ρ.set i (some (.val d))) H0 H1 := by
  refine ⟨L2.Same.refl _, fun _ _ h => .inl h, fun _ _ h _ => h, fun _ h => h, fun a ⟨j, ⟨b, o, e1⟩, e2⟩ => ?_, fun j p ⟨⟨o, e⟩, e2⟩ => ?_⟩
  · by_cases z : j = i
    · subst z
      by_cases hl : j < ρ.length
      · rw [List.getElem?_set_self hl] at e1; cases e1
      · rw [List.getElem?_eq_none (by simpa using Nat.le_of_not_lt hl)] at e1; cases e1
    · rw [get_set_ne z] at e1 e2
      exact .inl ⟨j, ⟨b, o, e1⟩, e2⟩
  · have z : j ≠ i := fun z => by subst z; exact npar_no np e
    exact ⟨⟨o, by rw [get_set_ne z]; exact e⟩, by rw [get_set_ne z]; exact e2⟩
/-- an own object goes into a slot -/
theorem sat_setO {p : Addr} {o : O} (S : Sat K H0 H1 σ ρ) (h0 : H0 p = none) (hc : ¬ Cell σ ρ p) (w : OwnAt K H0 H1 p o) : Sat K H0 H1 (σ.set i (some (.ref p))) (ρ.set i (some (.own false o))) := by
  have cel : ∀ j q, OwnS (σ.set i (some (.ref p))) (ρ.set i (some (.own false o))) j q → (j = i ∧ q = p) ∨ (j ≠ i ∧ OwnS σ ρ j q) := fun j q ⟨⟨b, u, e1⟩, e2⟩ => by
    by_cases z : j = i
    · subst z
      have hl : j < σ.length := by
        have := (List.getElem?_eq_some_iff.mp e2).1
        simpa using this
      rw [List.getElem?_set_self hl] at e2
      cases e2
      exact .inl ⟨rfl, rfl⟩
    · rw [get_set_ne z] at e1 e2
      exact .inr ⟨z, ⟨b, u, e1⟩, e2⟩
  refine ⟨S.sub, fun j d' e => ?_, fun j b u e => ?_, fun j k q h1 h2 => ?_, by simp [S.len]⟩
  · by_cases z : j = i
    · subst z
      have hl : j < ρ.length := by
        have := (List.getElem?_eq_some_iff.mp e).1
        simpa using this
      rw [List.getElem?_set_self hl] at e; cases e
    · rw [get_set_ne z] at e
      rw [get_set_ne z]
      exact S.val j d' e
  · by_cases z : j = i
    · subst z
      have hl : j < ρ.length := by
        have := (List.getElem?_eq_some_iff.mp e).1
        simpa using this
      rw [List.getElem?_set_self hl] at e; cases e
      exact ⟨p, List.getElem?_set_self (by rw [S.len]; exact hl), h0, w⟩
    · rw [get_set_ne z] at e
      rw [get_set_ne z]
      exact S.own j b u e
  · rcases cel j q h1 with ⟨z1, z2⟩ | ⟨z1, z2⟩
    · rcases cel k q h2 with ⟨y1, y2⟩ | ⟨y1, y2⟩
      · rw [z1, y1]
      · subst z2; exact (hc ⟨k, y2⟩).elim
    · rcases cel k q h2 with ⟨y1, y2⟩ | ⟨y1, y2⟩
      · subst y2; exact (hc ⟨j, z2⟩).elim
      · exact S.dist j k q z2 y2
theorem step_setO {σ0 : L2.St} {ρ0 : Rho} {p : Addr} {o : O} (st : Step σ0 ρ0 Hb H1 σ ρ H0 H1') (np : npar ρ i = true) (hb : H1 p = none) : Step σ0 ρ0 Hb H1 (σ.set i (some (.ref p))) (ρ.set i (some (.own false o))) H0 H1' := by
  refine ⟨st.kn, st.new, st.fr, st.dom, fun a ⟨j, ⟨b, u, e1⟩, e2⟩ => ?_, fun j q h => ?_⟩
  · by_cases z : j = i
    · subst z
      have hl : j < σ.length := by
        have := (List.getElem?_eq_some_iff.mp e2).1
        simpa using this
      rw [List.getElem?_set_self hl] at e2
      cases e2
      exact .inr hb
    · rw [get_set_ne z] at e1 e2
      exact st.cell a ⟨j, ⟨b, u, e1⟩, e2⟩
  · obtain ⟨⟨u, e⟩, e2⟩ := st.par j q h
    have z : j ≠ i := fun z => by subst z; exact npar_no np e
    exact ⟨⟨u, by rw [get_set_ne z]; exact e⟩, by rw [get_set_ne z]; exact e2⟩
theorem resS_back {σ0 : L2.St} {ρ0 : Rho} {v : V} {a : A} (st : Step σ0 ρ0 H0' Hb σ ρ H0 H1) (h : ResS K σ ρ H1 σ' ρ' H0 H1' v a) : ResS K σ0 ρ0 Hb σ' ρ' H0 H1' v a := by
  cases a with
  | val d => exact h
  | own b o =>
    obtain ⟨p, e, h0, hb, hc, w⟩ := h
    refine ⟨p, e, h0, ?_, hc, w⟩
    rcases hb with z | z
    · exact st.cell p z
    · exact .inr (st.dom p z)
end

section
variable {g : G} {D D' : Dn} {σ σ' : L2.St} {ρ ρ' : Rho} {H0 H1 H0' H1' : Hp} {De : Ends}
/-- what is wanted, from a later point -/
theorem Got.step (q : Got g D σ ρ H0 H1 De) (st : Step σ ρ H0 H1 σ' ρ' H0' H1') : Got g D σ' ρ' H0' H1' De := by
  refine ⟨fun a b c d s1 s2 s3 => q.nx a b c d (st.trans s1) s2 s3, fun v a b c d x s1 s2 s3 s4 => q.rt v a b c d x (st.trans s1) s2 ?_ s4, fun a b c d s1 s2 s3 => q.bk a b c d (st.trans s1) s2 s3, fun a b c d s1 s2 s3 => q.ct a b c d (st.trans s1) s2 s3⟩
  cases x with
  | val d => exact s3
  | own bb o =>
    obtain ⟨p, e, h0, hb, hc, w⟩ := s3
    refine ⟨p, e, h0, ?_, hc, w⟩
    rcases hb with z | z
    · exact st.cell p z
    · exact .inr (st.dom p z)
end

/-! ### targets -/
def WG (g : G) (t : TG) (d : D) (ρ : Rho) (Q : Rho → Prop) : Prop := ∀ σ H0 H1, Sat g.X.K H0 H1 σ ρ → ∀ v, Rep g.X.K H0 v d → ∀ Qv : L2.St → Hp → Prop,
  (∀ σ' H0' H1' ρ', Step σ ρ H0 H1 σ' ρ' H0' H1' → Sat g.X.K H0' H1' σ' ρ' → Q ρ' → Qv σ' H1') → t v σ H1 Qv
def WGs (g : G) (t : TGs) (ds : List D) (ρ : Rho) (Q : Rho → Prop) : Prop := ∀ σ H0 H1, Sat g.X.K H0 H1 σ ρ → ∀ vs, Reps g.X.K H0 vs ds → ∀ Qv : L2.St → Hp → Prop,
  (∀ σ' H0' H1' ρ', Step σ ρ H0 H1 σ' ρ' H0' H1' → Sat g.X.K H0' H1' σ' ρ' → Q ρ' → Qv σ' H1') → t vs σ H1 Qv
section
variable {g : G} {ρ : Rho} {d : D} {ds : List D} {Q : Rho → Prop} {i : Nat} {t : TG} {u : TGs} {n : Nat}
theorem wg_name (np : npar ρ i = true) (q : Q (ρ.set i (some (.val d)))) : WG g (gName i) d ρ Q := fun σ H0 H1 S v r Qv k => k _ H0 H1 _ (step_set np) (sat_set S r) q
theorem wgs_nil (q : Q ρ) : WGs g gNil [] ρ Q := fun σ H0 H1 S vs r Qv k => ⟨r, k _ _ _ _ Step.refl S q⟩
theorem wgs_cons (h : WG g t d ρ fun ρ1 => WGs g u ds ρ1 Q) : WGs g (gCons t u) (d :: ds) ρ Q := fun σ H0 H1 S vs ⟨v, r, e, r1, r2⟩ Qv k =>
  ⟨v, r, e, h σ H0 H1 S v r1 _ fun σ' H0' H1' ρ' st S' q => q σ' H0' H1' S' r (r2.mono st.kn) Qv fun a b c d s1 s2 s3 => k a b c d (st.trans s1) s2 s3⟩
theorem wg_tup (hn : ds.length = n) (h : WGs g u ds ρ Q) : WG g (gTup g.X.K n u) (.tup ds) ρ Q := fun σ H0 H1 S v ⟨a, vs, e, s, r⟩ Qv k =>
  ⟨a, vs, e, Same.tup S.sub s, by rw [r.length]; exact hn, h σ H0 H1 S vs r Qv k⟩
theorem wg_lst (hn : ds.length = n) (h : WGs g u ds ρ Q) : WG g (gLst g.X.K n u) (.lst ds) ρ Q := fun σ H0 H1 S v ⟨a, vs, e, s, r⟩ Qv k =>
  ⟨a, vs, e, SqL.of (S.sub _ _ s), by rw [r.length]; exact hn, h σ H0 H1 S vs r Qv k⟩
end

/-! ### loops over data at hand -/
/-- the turns over the items, one after another -/
def Loop (g : G) (t : TG) (body : List Stmt) : List D → Rho → (Rho → Prop) → (Rho → A → Prop) → Prop
  | [], ρ, nx, _ => nx ρ
  | d :: ds, ρ, nx, rt => WG g t d ρ fun ρ1 => GoB g body ρ1 ⟨fun ρ2 => Loop g t body ds ρ2 nx rt, rt, nx, fun ρ2 => Loop g t body ds ρ2 nx rt⟩

section
variable {g : G} {k : Nat} {ρ : Rho} {a b c e iter tg : Expr} {es : List Expr} {st : Stmt} {sts body : List Stmt} {pos p p2 : Pos} {j i : Nat} {x : Str} {nx : Rho → Prop} {rt : Rho → A → Prop} {bk ct : Rho → Prop} {t : TG}
theorem b_nil (q : nx ρ) : GoB g [] ρ ⟨nx, rt, bk, ct⟩ := b_of pss_nil fun σ H0 H1 S T De w => w.nx σ H0 H1 ρ Step.refl S q
theorem b_cons (h : GoS g st ρ ⟨fun ρ1 => GoB g sts ρ1 ⟨nx, rt, bk, ct⟩, rt, bk, ct⟩) : GoB g (st :: sts) ρ ⟨nx, rt, bk, ct⟩ := b_of (pss_cons pXS pXSs) fun σ H0 H1 S T De w =>
  h σ H0 H1 S T _ ⟨fun σ' H0' H1' ρ' s1 s2 q => q σ' H0' H1' s2 (T.step s1) De (w.step s1), fun v σ' H0' H1' ρ' a s1 s2 s3 q => w.rt v σ' H0' H1' ρ' a s1 s2 s3 q, fun σ' H0' H1' ρ' s1 s2 q => w.bk σ' H0' H1' ρ' s1 s2 q, fun σ' H0' H1' ρ' s1 s2 q => w.ct σ' H0' H1' ρ' s1 s2 q⟩
theorem s_pass (q : nx ρ) : GoS g (.Pass pos) ρ ⟨nx, rt, bk, ct⟩ := s_of ps_pass fun σ H0 H1 S T De w => w.nx σ H0 H1 ρ Step.refl S q
theorem s_cont (q : ct ρ) : GoS g (.Continue pos) ρ ⟨nx, rt, bk, ct⟩ := s_of ps_continue fun σ H0 H1 S T De w => w.ct σ H0 H1 ρ Step.refl S q
theorem s_expr (h : GoE g e ρ fun ρ1 _ => nx ρ1) (hs : swapsWith e none pos.line g.X.env = pure false := by rfl) : GoS g (.Expr e pos) ρ ⟨nx, rt, bk, ct⟩ := s_of (ps_expr pX hs) fun σ H0 H1 S T De w =>
  h σ H0 H1 S T _ fun v H0' H1' ρ' a s1 s2 s3 q => w.nx σ H0' H1' ρ' s1 s2 q
theorem s_ret (h : GoE g e ρ fun ρ1 x => rt ρ1 x) : GoS g (.Return (some e) pos) ρ ⟨nx, rt, bk, ct⟩ := s_of (ps_ret pX) fun σ H0 H1 S T De w =>
  h σ H0 H1 S T _ fun v H0' H1' ρ' a s1 s2 s3 q => w.rt v σ H0' H1' ρ' a s1 s2 (by
    cases a with
    | val d => exact s3
    | own bb o => obtain ⟨p, e, h0, hb, hc, u⟩ := s3; exact ⟨p, e, h0, .inr hb, hc, u⟩) q
/-- an own object goes out with the def -/
theorem s_retO {o : O} (s : SlotV g.X x i) (h : ρ[i]? = some (some (.own false o))) (q : rt (ρ.set i none) (.own false o)) : GoS g (.Return (some (.Name x p)) pos) ρ ⟨nx, rt, bk, ct⟩ := s_of (ps_ret (pe_var s.hN s.hv s.hd s.hc)) fun σ H0 H1 S T De w => by
  obtain ⟨pp, h1, h2, h3⟩ := S.own i false o h
  refine ⟨.ref pp, h1, w.rt _ σ H0 H1 (ρ.set i none) (.own false o) (step_gone ?_) (sat_gone S) ⟨pp, rfl, h2, .inl ⟨i, ⟨false, o, h⟩, h1⟩, ?_, h3⟩ q⟩
  · unfold npar; rw [h]
  · rintro ⟨j, ⟨bb, u, e1⟩, e2⟩
    have z : j ≠ i := fun z => by
      subst z
      have hl := (List.getElem?_eq_some_iff.mp e1).1
      rw [List.getElem?_set_self (by simpa using hl)] at e1; cases e1
    rw [get_set_ne z] at e1
    exact z (S.dist j i pp ⟨⟨bb, u, e1⟩, e2⟩ ⟨⟨false, o, h⟩, h1⟩)
theorem s_retN (q : rt ρ (.val .non)) : GoS g (.Return none pos) ρ ⟨nx, rt, bk, ct⟩ := s_of ps_retN fun σ H0 H1 S T De w => w.rt _ σ H0 H1 ρ (.val .non) Step.refl S (show V.non = V.non from rfl) q
theorem s_if {u w : List Stmt} (h : GoT g c ρ fun ρ1 k => (k = true → GoB g u ρ1 ⟨nx, rt, bk, ct⟩) ∧ (k = false → GoB g w ρ1 ⟨nx, rt, bk, ct⟩)) : GoS g (.If c u w pos) ρ ⟨nx, rt, bk, ct⟩ := s_of (ps_if pXT pXSs pXSs) fun σ H0 H1 S T De q =>
  h σ H0 H1 S T _ fun H0' H1' ρ' b s1 s2 ⟨q1, q2⟩ => by
    cases b with
    | true => exact q1 rfl σ H0' H1' s2 (T.step s1) De (q.step s1)
    | false => exact q2 rfl σ H0' H1' s2 (T.step s1) De (q.step s1)
/-- x = e, data -/
theorem s_set (s : SlotW g.X x i) (h : GoV g e ρ fun ρ1 d => npar ρ1 i = true ∧ nx (ρ1.set i (some (.val d)))) (hs : swapsWith e (some (.Name x p)) pos.line g.X.env = pure false := by rfl) : GoS g (.Assign [.Name x p] e pos) ρ ⟨nx, rt, bk, ct⟩ :=
  s_of (ps_set s.nd s.hN s.hl pX hs s.hf) fun σ H0 H1 S T De w => h σ H0 H1 S T _ fun v H0' H1' ρ' d s1 s2 r ⟨np, q⟩ => w.nx _ H0' H1' _ (s1.trans (step_set np)) (sat_set s2 r) q
/-- x = e, an own object, or data -/
theorem s_setO (s : SlotW g.X x i) (h : GoE g e ρ fun ρ1 a => npar ρ1 i = true ∧ nx (ρ1.set i (some a.loc))) (hs : swapsWith e (some (.Name x p)) pos.line g.X.env = pure false := by rfl) : GoS g (.Assign [.Name x p] e pos) ρ ⟨nx, rt, bk, ct⟩ :=
  s_of (ps_set s.nd s.hN s.hl pX hs s.hf) fun σ H0 H1 S T De w => h σ H0 H1 S T _ fun v H0' H1' ρ' a s1 s2 r ⟨np, q⟩ => by
    cases a with
    | val d => exact w.nx _ H0' H1' _ (s1.trans (step_set np)) (sat_set s2 r) q
    | own bb o =>
      obtain ⟨pp, rfl, h0, hb, hc, u⟩ := r
      exact w.nx _ H0' H1' _ (step_setO s1 np hb) (sat_setO s2 h0 hc u) q
/-- target = e, by the target's rule -/
theorem s_asg (hg : PG g.X tg t) (h : GoV g e ρ fun ρ1 d => WG g t d ρ1 nx) (hs : swapsWithSole [tg] e pos.line g.X.env = pure false := by rfl) (hw : swappedStores [tg] e g.X.env = pure none := by rfl) (h1 : (assignEach [tg] g.X.env).map (fun x => x.2) = [assign tg g.X.env] := by rfl) : GoS g (.Assign [tg] e pos) ρ ⟨nx, rt, bk, ct⟩ :=
  s_of (ps_asg pX hg hs hw h1) fun σ H0 H1 S T De w => h σ H0 H1 S T _ fun v H0' H1' ρ' d s1 s2 r q => q σ H0' H1' s2 v r De.nx fun σ' H0'' H1'' ρ'' s3 s4 q' => w.nx σ' H0'' H1'' ρ'' (s1.trans s3) s4 q'
def isSt : Expr → Bool
  | .Starred .. => true
  | _ => false
theorem par_sw {env : Env} {x y : Str} {px py pt : Pos} {kt k2 pt2} (hk : env.scope.kind = .function) (hx : env.scope.names.lookup x = some .local) (hy : env.scope.names.lookup y = some .local) (hl : (py.line == px.line) = true) (hd : [x, y].eraseDups.length = 2)
    (ha : isSt a = false) (hb' : isSt b = false) (hf : [a, b].all (foldedForSure 8) = false) (hc : [a, b].all (constantsAlone 8) = false) :
    swappedStores [.Tuple [.Name x px, .Name y py] kt pt] (.Tuple [a, b] k2 pt2) env = pure (some [x, y]) := by
  have hb : env.blockKind = .function := by unfold Env.blockKind; rw [hk]; rfl
  have kx : env.kindOf x = some .local := hx
  have ky : env.kindOf y = some .local := hy
  have e2 : ((Expr.Name x px).pos.line) = px.line := rfl
  have hl' : py.line = px.line := by simpa using hl
  unfold swappedStores
  simp [hb, kx, ky, hf, hc, hd, e2, hl', List.filterMap_cons]
  rintro (h | h)
  · exact absurd (show isSt a = true from h) (by rw [ha]; decide)
  · exact absurd (show isSt b = true from h) (by rw [hb']; decide)
/-- x, y = a, b -/
theorem s_par {y : Str} {px py pt : Pos} {kt k2 pt2} {jj : Nat} (hc : Ct g.X k) (sx : SlotW g.X x i) (sy : SlotW g.X y jj) (hx : Lcl g.X x) (hy : Lcl g.X y)
    (h : GoA g [a, b] ρ fun ρ1 ds => ∃ d1 d2, ds = [d1, d2] ∧ npar ρ1 i = true ∧ npar (ρ1.set i (some (.val d1))) jj = true ∧ nx ((ρ1.set i (some (.val d1))).set jj (some (.val d2))))
    (hij : i ≠ jj) (hl : (py.line == px.line) = true) (hd : [x, y].eraseDups.length = 2)
    (hsa : isSt a = false) (hsb : isSt b = false) (hf : [a, b].all (foldedForSure 8) = false) (hc1 : [a, b].all (constantsAlone 8) = false) (hs : swapsWithSole [.Tuple [.Name x px, .Name y py] kt pt] (.Tuple [a, b] k2 pt2) pos.line g.X.env = pure false) :
    GoS g (.Assign [.Tuple [.Name x px, .Name y py] kt pt] (.Tuple [a, b] k2 pt2) pos) ρ ⟨nx, rt, bk, ct⟩ :=
  s_of (ps_par hc.calm sx.nd sx.hN sy.hN hij hx hy pXA (par_sw hc.kind hx hy hl hd hsa hsb hf hc1) hs) fun σ H0 H1 S T De w => h σ H0 H1 S T _ fun vs H0' H1' ρ' ds s1 s2 r ⟨d1, d2, e, n1, n2, q⟩ => by
    subst e
    obtain ⟨v1, r1, e1, p1, v2, r2, e2, p2, e3⟩ := r
    subst e1; subst e2
    cases (show r2 = [] from e3)
    refine ⟨v1, v2, rfl, w.nx _ H0' H1' _ ((s1.trans (step_set n1)).trans (step_set n2)) (sat_set (sat_set s2 p1) p2) q⟩
/-- between two turns -/
def PvL (g : G) (t : TG) (body : List Stmt) (nx : Rho → Prop) (rt : Rho → A → Prop) (σ0 : L2.St) (ρ0 : Rho) (H00 H10 : Hp) (ds : List D) (i : Nat) (σ : L2.St) (H : Hp) : Prop :=
  i ≤ ds.length ∧ ∃ K0 ρ1, Step σ0 ρ0 H00 H10 σ ρ1 K0 H ∧ Sat g.X.K K0 H σ ρ1 ∧ Loop g t body (ds.drop i) ρ1 nx rt
theorem loop_turn {De : Ends} {ds : List D} {σ0 : L2.St} {H00 H10 : Hp} {ρ0 : Rho} (W : Got g ⟨nx, rt, bk, ct⟩ σ0 ρ0 H00 H10 De) (T : Tk g σ0 ρ0 H00 H10) {i : Nat} {v : V} {σ : L2.St} {H : Hp} {d : D} (hd : ds[i]? = some d) (hr : ∀ K0, Same H00 K0 → Rep g.X.K K0 v d)
    (h : PvL g t body nx rt σ0 ρ0 H00 H10 ds i σ H) : t v σ H fun σ2 H2 => tXSs g.X body { De with nx := PvL g t body nx rt σ0 ρ0 H00 H10 ds (i + 1), ct := PvL g t body nx rt σ0 ρ0 H00 H10 ds (i + 1), bk := De.nx } σ2 H2 := by
  obtain ⟨hi, K0, ρ1, st, S, L⟩ := h
  have hlt : i < ds.length := (List.getElem?_eq_some_iff.mp hd).1
  have e : ds.drop i = d :: ds.drop (i + 1) := by
    rw [List.drop_eq_getElem_cons hlt]
    have := (List.getElem?_eq_some_iff.mp hd).2
    rw [this]
  rw [e] at L
  refine L σ K0 H S v (hr K0 st.kn) _ fun σ' K1 H' ρ2 s1 S1 q => ?_
  refine q σ' K1 H' S1 ((T.step st).step s1) _ ?_
  have st' := st.trans s1
  exact ⟨fun a b c d s3 s4 s5 => ⟨hlt, b, d, st'.trans s3, s4, s5⟩, fun v a b c d x s3 s4 s5 s6 => (W.step st').rt v a b c d x s3 s4 s5 s6, fun a b c d s3 s4 s5 => W.nx a b c d (st'.trans s3) s4 s5, fun a b c d s3 s4 s5 => ⟨hlt, b, d, st'.trans s3, s4, s5⟩⟩
theorem loop_end {De : Ends} {ds : List D} {σ0 : L2.St} {H00 H10 : Hp} {ρ0 : Rho} (W : Got g ⟨nx, rt, bk, ct⟩ σ0 ρ0 H00 H10 De) {σ : L2.St} {H : Hp} (h : PvL g t body nx rt σ0 ρ0 H00 H10 ds ds.length σ H) : De.nx σ H := by
  obtain ⟨_, K0, ρ1, st, S, L⟩ := h
  rw [List.drop_length] at L
  exact W.nx σ K0 H ρ1 st S L
theorem loop_start {ds : List D} {σ : L2.St} {H0 H1 : Hp} (S : Sat g.X.K H0 H1 σ ρ) (L : Loop g t body ds ρ nx rt) : PvL g t body nx rt σ ρ H0 H1 ds 0 σ H1 := ⟨Nat.zero_le _, H0, ρ, Step.refl, S, by rw [List.drop_zero]; exact L⟩
/-- for over a list of data -/
theorem s_forL (hc : Ct g.X k) (hg : PG g.X tg t) (h : GoV g iter ρ fun ρ1 d => ∃ ds, d = .lst ds ∧ Loop g t body ds ρ1 nx rt) (hs : ∀ x, foldedSetIterable iter g.X.env x = pure x := by intro _; rfl) : GoS g (.For tg iter body [] pos) ρ ⟨nx, rt, bk, ct⟩ :=
  s_of (ps_for hc.po hc.calm (pi_list pX) hg pXSs hs) fun σ H0 H1 S T De w => h σ H0 H1 S T _ fun v H0' H1' ρ' d s1 S1 r ⟨ds, e, L⟩ => by
    subst e
    obtain ⟨p, vs, rfl, hp, rr⟩ := r
    refine ⟨p, rfl, ⟨vs, SqL.of (S1.sub _ _ hp)⟩, ?_⟩
    have w1 := w.step s1
    refine for_list (xs := vs) (PvL g t body nx rt σ ρ' H0' H1' ds) (loop_start S1 L) (fun i σ2 H2 _ q => ?_) (fun i x σ2 H2 hx q => ?_) fun σ2 H2 q => ?_
    · obtain ⟨_, K0, ρ1, st, SS, _⟩ := q
      exact SqL.of (SS.sub _ _ (st.kn _ _ hp))
    · obtain ⟨d, hd, rd⟩ := rr.getV hx
      exact loop_turn w1 (T.step s1) hd (fun K0 e => rd.mono e) q
    · rw [rr.length] at q
      exact loop_end w1 q
/-- for over a tuple of data -/
theorem s_forT (hc : Ct g.X k) (hg : PG g.X tg t) (h : GoV g iter ρ fun ρ1 d => ∃ ds, d = .tup ds ∧ Loop g t body ds ρ1 nx rt) (hs : ∀ x, foldedSetIterable iter g.X.env x = pure x := by intro _; rfl) : GoS g (.For tg iter body [] pos) ρ ⟨nx, rt, bk, ct⟩ :=
  s_of (ps_for hc.po hc.calm (pi_tup pX) hg pXSs hs) fun σ H0 H1 S T De w => h σ H0 H1 S T _ fun v H0' H1' ρ' d s1 S1 r ⟨ds, e, L⟩ => by
    subst e
    obtain ⟨p, vs, rfl, hp, rr⟩ := r
    refine ⟨p, rfl, ⟨vs, Same.tup S1.sub hp⟩, ?_⟩
    have w1 := w.step s1
    refine for_tup (xs := vs) (PvL g t body nx rt σ ρ' H0' H1' ds) (loop_start S1 L) (fun i σ2 H2 _ q => ?_) (fun i x σ2 H2 hx q => ?_) fun σ2 H2 q => ?_
    · obtain ⟨_, K0, ρ1, st, SS, _⟩ := q
      exact Same.tup SS.sub (Same.tup st.kn hp)
    · obtain ⟨d, hd, rd⟩ := rr.getV hx
      exact loop_turn w1 (T.step s1) hd (fun K0 e => rd.mono e) q
    · rw [rr.length] at q
      exact loop_end w1 q
/-- the whole numbers lo, lo + 1, .. -/
def rng (lo : Int) (n : Nat) : List D := (List.range n).map fun (i : Nat) => .int (lo + (i : Int))
theorem rng_len (lo : Int) (n : Nat) : (rng lo n).length = n := by simp [rng]
theorem rng_get {lo : Int} {n i : Nat} (h : i < n) : (rng lo n)[i]? = some (.int (lo + i)) := by simp [rng, h]
theorem s_forR1 (hc : Ct g.X k) (hg : PG g.X tg t) (hr : Blt g.X "range" (.type "range")) (h : GoV g a ρ fun ρ1 d => ∃ n : Int, d = .int n ∧ n < 2 ^ 62 ∧ -(2 ^ 62) ≤ n ∧ Loop g t body (rng 0 n.toNat) ρ1 nx rt)
    (h1 : starEach [a] g.X.env = [(false, eval a g.X.env)] := by rfl) (hs : ∀ x, foldedSetIterable (.Call (.Name "range" p) [a] [] p2) g.X.env x = pure x := by intro _; rfl) : GoS g (.For tg (.Call (.Name "range" p) [a] [] p2) body [] pos) ρ ⟨nx, rt, bk, ct⟩ :=
  s_of (ps_for hc.po hc.calm (pi_range1 hr.hg hr.hm pXA h1) hg pXSs hs) fun σ H0 H1 S T De w => (a_cons (Q := fun r xs => ∃ n : Int, xs = [.int n] ∧ n < 2 ^ 62 ∧ -(2 ^ 62) ≤ n ∧ Loop g t body (rng 0 n.toNat) r nx rt) (h.imp fun r d ⟨n, e, q1, q2, q3⟩ => a_nil ⟨n, by rw [e], q1, q2, q3⟩) h1) σ H0 H1 S T _ fun vs H0' H1' ρ' ds s1 S1 r ⟨n, e, n1, n2, L⟩ => by
    subst e
    obtain ⟨v, rr, e1, r1, r2⟩ := r
    subst e1
    cases (show v = _ from r1)
    cases (show rr = [] from r2)
    refine ⟨n, rfl, n2, n1, ?_⟩
    have w1 := w.step s1
    refine for_range (PvL g t body nx rt σ ρ' H0' H1' (rng 0 n.toNat)) (loop_start S1 L) (fun i σ2 H2 hx q => ?_) fun σ2 H2 q => ?_
    · exact loop_turn w1 (T.step s1) (rng_get hx) (fun K0 e => rep_int) q
    · exact loop_end w1 (by rw [rng_len]; exact q)
theorem s_forR2 (hc : Ct g.X k) (hg : PG g.X tg t) (hr : Blt g.X "range" (.type "range")) (h : GoA g [a, b] ρ fun ρ1 ds => ∃ m n : Int, ds = [.int m, .int n] ∧ (-(2 ^ 62) ≤ m ∧ m < 2 ^ 62 ∧ -(2 ^ 62) ≤ n ∧ n < 2 ^ 62) ∧ Loop g t body (rng m (n - m).toNat) ρ1 nx rt)
    (h1 : starEach [a, b] g.X.env = [(false, eval a g.X.env), (false, eval b g.X.env)] := by rfl) (h2 : starEach [b] g.X.env = [(false, eval b g.X.env)] := by rfl) (hs : ∀ x, foldedSetIterable (.Call (.Name "range" p) [a, b] [] p2) g.X.env x = pure x := by intro _; rfl) : GoS g (.For tg (.Call (.Name "range" p) [a, b] [] p2) body [] pos) ρ ⟨nx, rt, bk, ct⟩ :=
  s_of (ps_for hc.po hc.calm (pi_range2 hr.hg hr.hm pXA h1 h2) hg pXSs hs) fun σ H0 H1 S T De w => h σ H0 H1 S T _ fun vs H0' H1' ρ' ds s1 S1 r ⟨m, n, e, nn, L⟩ => by
    subst e
    obtain ⟨v, rr, e1, r1, v2, r2, e2, r3, r4⟩ := r
    subst e1; subst e2
    cases (show v = _ from r1)
    cases (show v2 = _ from r3)
    cases (show r2 = [] from r4)
    refine ⟨m, n, rfl, nn, ?_⟩
    have w1 := w.step s1
    refine for_range (PvL g t body nx rt σ ρ' H0' H1' (rng m (n - m).toNat)) (loop_start S1 L) (fun i σ2 H2 hx q => ?_) fun σ2 H2 q => ?_
    · exact loop_turn w1 (T.step s1) (rng_get hx) (fun K0 e => rep_int) q
    · exact loop_end w1 (by rw [rng_len]; exact q)
/-- while, by a word and a number that falls -/
theorem s_while (hc : Ct g.X k) (I : Nat → Rho → Prop) (m0 : Nat) (h0 : I m0 ρ)
    (ht : ∀ m ρ1, I m ρ1 → GoT g c ρ1 fun ρ2 b => (b = true → GoB g body ρ2 ⟨fun ρ3 => ∃ m', m' < m ∧ I m' ρ3, rt, nx, fun ρ3 => ∃ m', m' < m ∧ I m' ρ3⟩) ∧ (b = false → nx ρ2)) : GoS g (.While c body [] pos) ρ ⟨nx, rt, bk, ct⟩ :=
  s_of (ps_while hc.po pXT pXSs) fun σ H0 H1 S T De w => by
    refine ⟨fun m σ' H' => ∃ K0 ρ1, Step σ ρ H0 H1 σ' ρ1 K0 H' ∧ Sat g.X.K K0 H' σ' ρ1 ∧ I m ρ1, ⟨m0, H0, ρ, Step.refl, S, h0⟩, fun m σ' H' ⟨K0, ρ1, st, S1, hI⟩ => ?_⟩
    refine ht m ρ1 hI σ' K0 H' S1 (T.step st) _ fun K1 H'' ρ2 b s2 S2 ⟨q1, q2⟩ => ?_
    have st2 := st.trans s2
    cases b with
    | true =>
      refine ⟨fun σ3 H3 => ∃ m', m' < m ∧ ∃ K0 ρ1, Step σ ρ H0 H1 σ3 ρ1 K0 H3 ∧ Sat g.X.K K0 H3 σ3 ρ1 ∧ I m' ρ1, fun σ3 H3 ⟨m', hm, r⟩ => ⟨m', hm, r⟩, ?_⟩
      exact q1 rfl σ' K1 H'' S2 (T.step st2) _ ⟨fun a b c d s3 s4 ⟨m', hm, s5⟩ => ⟨m', hm, b, d, st2.trans s3, s4, s5⟩, fun v a b c d x s3 s4 s5 s6 => (w.step st2).rt v a b c d x s3 s4 s5 s6, fun a b c d s3 s4 s5 => w.nx a b c d (st2.trans s3) s4 s5, fun a b c d s3 s4 ⟨m', hm, s5⟩ => ⟨m', hm, b, d, st2.trans s3, s4, s5⟩⟩
    | false => exact w.nx σ' K1 H'' ρ2 st2 S2 (q2 rfl)
end
end FW

set_option Elab.async false
set_option linter.all false
set_option maxRecDepth 100000
set_option maxHeartbeats 4000000
namespace FW
open PySem PySem.Spec PyProof.Rows L2

/-- an argument: data, or the own object of a slot, lent -/
inductive Ar where
  | d (x : D) | o (i : Nat)
def ArgsOk (K : PySem.W.Frag) (σ : L2.St) (ρ : Rho) (H0 : Hp) : List V → List Ar → Prop
  | vs, [] => vs = []
  | vs, .d x :: r => ∃ v ws, vs = v :: ws ∧ Rep K H0 v x ∧ ArgsOk K σ ρ H0 ws r
  | vs, .o i :: r => ∃ v ws, vs = v :: ws ∧ σ[i]? = some (some v) ∧ (∃ b u, ρ[i]? = some (some (.own b u))) ∧ ArgsOk K σ ρ H0 ws r
def WL (g : G) (t : TA) (ρ : Rho) (Q : Rho → List Ar → Prop) : Prop := ∀ σ H0 H1, Sat g.X.K H0 H1 σ ρ → Tk g σ ρ H0 H1 → ∀ Qv : List V → Hp → Prop,
  (∀ vs H0' H1' ρ' as, Step σ ρ H0 H1 σ ρ' H0' H1' → Sat g.X.K H0' H1' σ ρ' → ArgsOk g.X.K σ ρ' H0' vs as → Q ρ' as → Qv vs H1') → t σ H1 Qv
abbrev GoL (g : G) (es : List Expr) (ρ : Rho) (Q : Rho → List Ar → Prop) : Prop := WL g (tXA g.X es) ρ Q
section
variable {g : G} {ρ : Rho} {e : Expr} {es : List Expr} {x : Str} {p : Pos} {i : Nat} {Q : Rho → List Ar → Prop}
theorem l_nil (k : Q ρ []) : GoL g [] ρ Q := fun σ H0 H1 S T Qv q pos pins s I => pa_nil.run pos pins s σ H1 Qv I (q [] H0 H1 ρ [] Step.refl S rfl k)
theorem l_cons (h : GoV g e ρ fun ρ1 x => GoL g es ρ1 fun ρ2 xs => Q ρ2 (.d x :: xs)) (hs : starEach (e :: es) g.X.env = (false, eval e g.X.env) :: starEach es g.X.env := by rfl) : GoL g (e :: es) ρ Q := fun σ H0 H1 S T Qv k pos pins s I =>
  (pa_cons pX pXA hs).run pos pins s σ H1 Qv I (h σ H0 H1 S T _ fun v H0' H1' ρ' x st S' rx q => q σ H0' H1' S' (T.step st) _ fun vs H0'' H1'' ρ'' xs st' S'' ry q' =>
    k (v :: vs) H0'' H1'' ρ'' (.d x :: xs) (st.trans st') S'' ⟨v, vs, rfl, rx.mono st'.kn, ry⟩ q')
theorem l_own (s : SlotV g.X x i) (ho : ∃ b u, ρ[i]? = some (some (.own b u))) (h : GoL g es ρ fun ρ2 xs => (∃ b u, ρ2[i]? = some (some (.own b u))) ∧ Q ρ2 (.o i :: xs)) (hs : starEach (.Name x p :: es) g.X.env = (false, eval (.Name x p) g.X.env) :: starEach es g.X.env := by rfl) : GoL g (.Name x p :: es) ρ Q := fun σ H0 H1 S T Qv k pos pins s' I => by
  refine (pa_cons (pe_var s.hN s.hv s.hd s.hc) pXA hs).run pos pins s' σ H1 Qv I ?_
  obtain ⟨b, u, e⟩ := ho
  obtain ⟨pp, h1, h2, h3⟩ := S.own i b u e
  refine ⟨.ref pp, h1, h σ H0 H1 S T _ fun vs H0' H1' ρ' as st S' ra ⟨w, q⟩ => k (.ref pp :: vs) H0' H1' ρ' (.o i :: as) st S' ⟨.ref pp, vs, rfl, h1, w, ra⟩ q⟩
end

def flag (ρ : Rho) (i : Nat) : Bool := match ρ[i]? with
  | some (some (.own b _)) => b
  | _ => false
def lend1 (ρ : Rho) (i : Nat) : A := match ρ[i]? with
  | some (some (.own _ o)) => .own true o
  | _ => .val .non
def lend (ρ : Rho) : List Ar → List A
  | [] => []
  | .d x :: r => .val x :: lend ρ r
  | .o i :: r => lend1 ρ i :: lend ρ r
def give : Rho → List Ar → List A → Rho
  | ρ, .d _ :: r, _ :: s => give ρ r s
  | ρ, .o i :: r, .own _ o :: s => give (ρ.set i (some (.own (flag ρ i) o))) r s
  | ρ, _, _ => ρ
def slots : List Ar → List Nat
  | [] => []
  | .d _ :: r => slots r
  | .o i :: r => i :: slots r
theorem slots_mem : ∀ {as : List Ar} {n i : Nat}, as[n]? = some (.o i) → i ∈ slots as
  | [], _, _, h => by simp at h
  | .d _ :: r, 0, _, h => by simp at h
  | .d _ :: r, n + 1, i, h => slots_mem (as := r) (n := n) (by simpa using h)
  | .o j :: r, 0, i, h => by simp at h; subst h; exact List.mem_cons_self
  | .o j :: r, n + 1, i, h => List.mem_cons_of_mem _ (slots_mem (as := r) (n := n) (by simpa using h))
theorem slots_inj : ∀ {as : List Ar} {n m i : Nat}, (slots as).Nodup → as[n]? = some (.o i) → as[m]? = some (.o i) → n = m
  | [], _, _, _, _, h, _ => by simp at h
  | .d _ :: r, 0, _, _, _, h, _ => by simp at h
  | .d _ :: r, _, 0, _, _, _, h => by simp at h
  | .d _ :: r, n + 1, m + 1, i, hn, h1, h2 => by rw [slots_inj (as := r) (n := n) (m := m) hn (by simpa using h1) (by simpa using h2)]
  | .o j :: r, 0, 0, _, _, _, _ => rfl
  | .o j :: r, 0, m + 1, i, hn, h1, h2 => by
    simp at h1; subst h1
    exact absurd (slots_mem (as := r) (n := m) (by simpa using h2)) (List.nodup_cons.mp hn).1
  | .o j :: r, n + 1, 0, i, hn, h1, h2 => by
    simp at h2; subst h2
    exact absurd (slots_mem (as := r) (n := n) (by simpa using h1)) (List.nodup_cons.mp hn).1
  | .o j :: r, n + 1, m + 1, i, hn, h1, h2 => by rw [slots_inj (as := r) (n := n) (m := m) (List.nodup_cons.mp hn).2 (by simpa using h1) (by simpa using h2)]
theorem flag_set {ρ : Rho} {i j : Nat} {x : Option A} (h : j ≠ i) : flag (ρ.set i x) j = flag ρ j := by
  unfold flag
  rw [get_set_ne h]
theorem give_len : ∀ (as : List Ar) (as' : List A) (ρ : Rho), (give ρ as as').length = ρ.length
  | [], _, _ => by simp [give]
  | .d _ :: r, [], _ => by simp [give]
  | .d _ :: r, _ :: s, ρ => by simp [give, give_len r s ρ]
  | .o i :: r, [], _ => by simp [give]
  | .o i :: r, .val _ :: s, _ => by simp [give]
  | .o i :: r, .own _ o :: s, ρ => by simp [give, give_len r s]
theorem give_out : ∀ (as : List Ar) (as' : List A) (ρ : Rho) (j : Nat), j ∉ slots as → (give ρ as as')[j]? = ρ[j]?
  | [], _, _, _, _ => by simp [give]
  | .d _ :: r, [], _, _, _ => by simp [give]
  | .d _ :: r, _ :: s, ρ, j, h => by simp only [give]; exact give_out r s ρ j h
  | .o i :: r, [], _, _, _ => by simp [give]
  | .o i :: r, .val _ :: s, _, _, _ => by simp [give]
  | .o i :: r, .own _ o :: s, ρ, j, h => by
    have h1 : j ≠ i := fun z => h (by rw [z]; exact List.mem_cons_self)
    simp only [give]
    rw [give_out r s _ j fun z => h (List.mem_cons_of_mem _ z), get_set_ne h1]
theorem give_in : ∀ (as : List Ar) (as' : List A) (ρ : Rho) (n j : Nat) (o : O), (slots as).Nodup → (∀ (m i : Nat), as[m]? = some (Ar.o i) → ∃ u : O, as'[m]? = some (A.own true u)) → as.length = as'.length → as[n]? = some (.o j) → as'[n]? = some (.own true o) → j < ρ.length → (give ρ as as')[j]? = some (some (.own (flag ρ j) o))
  | [], _, _, _, _, _, _, _, _, h, _, _ => by simp at h
  | .d _ :: r, [], _, _, _, _, _, _, hl, _, _, _ => by simp at hl
  | .d _ :: r, _ :: s, ρ, 0, j, o, hn, ha, hl, h, h', hj => by simp at h
  | .d _ :: r, _ :: s, ρ, n + 1, j, o, hn, ha, hl, h, h', hj => by
    simp only [give]
    exact give_in r s ρ n j o hn (fun m i e => by obtain ⟨u, q⟩ := ha (m + 1) i (by simpa using e); exact ⟨u, by simpa using q⟩) (by simpa using hl) (by simpa using h) (by simpa using h') hj
  | .o i :: r, [], _, _, _, _, _, _, hl, _, _, _ => by simp at hl
  | .o i :: r, .val _ :: s, ρ, n, j, o, hn, ha, hl, h, h', hj => by
    obtain ⟨u, q⟩ := ha 0 i rfl
    simp at q
  | .o i :: r, .own b u :: s, ρ, 0, j, o, hn, ha, hl, h, h', hj => by
    simp at h h'
    subst h
    obtain ⟨e1, e2⟩ := h'
    subst e2
    simp only [give]
    rw [give_out r s _ _ (List.nodup_cons.mp hn).1, List.getElem?_set_self hj]
  | .o i :: r, .own b u :: s, ρ, n + 1, j, o, hn, ha, hl, h, h', hj => by
    have z : j ≠ i := fun z => (List.nodup_cons.mp hn).1 (by rw [← z]; exact slots_mem (n := n) (by simpa using h))
    simp only [give]
    rw [give_in r s _ n j o (List.nodup_cons.mp hn).2 (fun m i e => by obtain ⟨u, q⟩ := ha (m + 1) i (by simpa using e); exact ⟨u, by simpa using q⟩) (by simpa using hl) (by simpa using h) (by simpa using h') (by simpa using hj), flag_set z]

section
variable {K : PySem.W.Frag} {σ : L2.St} {ρ : Rho} {H0 H1 H0' H1' : Hp}
theorem args_len : ∀ {as : List Ar} {vs : List V}, ArgsOk K σ ρ H0 vs as → vs.length = as.length
  | [], _, h => by cases (show _ = [] from h); rfl
  | .d _ :: r, _, ⟨v, ws, e, _, t⟩ => by subst e; simp [args_len t]
  | .o _ :: r, _, ⟨v, ws, e, _, _, t⟩ => by subst e; simp [args_len t]
theorem lend_len : ∀ {as : List Ar}, (lend ρ as).length = as.length
  | [] => rfl
  | .d _ :: r => by simp [lend, lend_len (as := r)]
  | .o _ :: r => by simp [lend, lend_len (as := r)]
theorem args_get : ∀ {as : List Ar} {vs : List V} {n : Nat} {a : Ar}, ArgsOk K σ ρ H0 vs as → as[n]? = some a → ∃ v, vs[n]? = some v ∧
    match a with
    | .d x => Rep K H0 v x ∧ (lend ρ as)[n]? = some (.val x)
    | .o i => σ[i]? = some (some v) ∧ ∃ b u, ρ[i]? = some (some (.own b u)) ∧ (lend ρ as)[n]? = some (.own true u)
  | [], _, _, _, _, h => by simp at h
  | .d x :: r, _, 0, a, ⟨v, ws, e, q, t⟩, h => by
    subst e; simp at h; subst h
    exact ⟨v, rfl, q, rfl⟩
  | .o i :: r, _, 0, a, ⟨v, ws, e, q, ⟨b, u, w⟩, t⟩, h => by
    subst e; simp at h; subst h
    exact ⟨v, rfl, q, b, u, w, by simp [lend, lend1, w]⟩
  | .d x :: r, _, n + 1, a, ⟨v, ws, e, q, t⟩, h => by
    subst e
    obtain ⟨v', h1, h2⟩ := args_get (n := n) (a := a) t (by simpa using h)
    exact ⟨v', by simpa using h1, by cases a <;> simpa [lend] using h2⟩
  | .o i :: r, _, n + 1, a, ⟨v, ws, e, q, w, t⟩, h => by
    subst e
    obtain ⟨v', h1, h2⟩ := args_get (n := n) (a := a) t (by simpa using h)
    exact ⟨v', by simpa using h1, by cases a <;> simpa [lend] using h2⟩
/-- what a slot of the call's own frame holds -/
theorem lend_get {as : List Ar} {vs : List V} {n : Nat} {x : A} (ha : ArgsOk K σ ρ H0 vs as) (h : ((lend ρ as).map some)[n]? = some (some x)) : ∃ v, vs[n]? = some v ∧
    ((∃ d, as[n]? = some (.d d) ∧ x = .val d ∧ Rep K H0 v d) ∨ ∃ i b u, as[n]? = some (.o i) ∧ x = .own true u ∧ σ[i]? = some (some v) ∧ ρ[i]? = some (some (.own b u))) := by
  rw [List.getElem?_map] at h
  have hl : n < as.length := by
    cases e : (lend ρ as)[n]? with
    | none => rw [e] at h; cases h
    | some y => have := (List.getElem?_eq_some_iff.mp e).1; rw [lend_len] at this; exact this
  obtain ⟨v, h1, h2⟩ := args_get ha (List.getElem?_eq_getElem hl)
  refine ⟨v, h1, ?_⟩
  cases e : as[n] with
  | d d =>
    rw [e] at h2
    obtain ⟨q1, q2⟩ := h2
    rw [q2] at h
    cases h
    exact .inl ⟨d, by rw [List.getElem?_eq_getElem hl, e], rfl, q1⟩
  | o i =>
    rw [e] at h2
    obtain ⟨q1, b, u, q2, q3⟩ := h2
    rw [q3] at h
    cases h
    exact .inr ⟨i, b, u, by rw [List.getElem?_eq_getElem hl, e], rfl, q1, q2⟩
theorem get_vals {vs : List V} {n : Nat} {v : V} (h : (vs.map some)[n]? = some (some v)) : vs[n]? = some v := by
  rw [List.getElem?_map] at h
  cases e : vs[n]? with
  | none => rw [e] at h; cases h
  | some y => rw [e] at h; cases h; rfl
theorem vals_get {vs : List V} {n : Nat} {v : V} (h : vs[n]? = some v) : (vs.map some)[n]? = some (some v) := by rw [List.getElem?_map, h]; rfl
/-- the callee's entry -/
theorem lend_sat {as : List Ar} {vs : List V} (S : Sat K H0 H1 σ ρ) (ha : ArgsOk K σ ρ H0 vs as) (nd : (slots as).Nodup) : Sat K H0 H1 (vs.map some) ((lend ρ as).map some) := by
  refine ⟨S.sub, fun n d h => ?_, fun n b o h => ?_, fun n m p ⟨⟨b, o, h1⟩, h2⟩ ⟨⟨b', o', h3⟩, h4⟩ => ?_, by simp [args_len ha, lend_len]⟩
  · obtain ⟨v, h1, ⟨d', h2, h3, h4⟩ | ⟨i, b, u, h2, h3, h4, h5⟩⟩ := lend_get ha h
    · cases h3; exact ⟨v, vals_get h1, h4⟩
    · cases h3
  · obtain ⟨v, h1, ⟨d', h2, h3, h4⟩ | ⟨i, b', u, h2, h3, h4, h5⟩⟩ := lend_get ha h
    · cases h3
    · cases h3
      obtain ⟨p, q1, q2, q3⟩ := S.own i b' o h5
      rw [h4] at q1; cases q1
      exact ⟨p, vals_get h1, q2, q3⟩
  · obtain ⟨v, k1, ⟨d', k2, k3, k4⟩ | ⟨i, c, u, k2, k3, k4, k5⟩⟩ := lend_get ha h1
    · cases k3
    obtain ⟨v', l1, ⟨d', l2, l3, l4⟩ | ⟨i', c', u', l2, l3, l4, l5⟩⟩ := lend_get ha h3
    · cases l3
    have e1 := get_vals h2
    have e2 := get_vals h4
    rw [k1] at e1; cases e1
    rw [l1] at e2; cases e2
    have e := S.dist i i' p ⟨⟨c, u, k5⟩, k4⟩ ⟨⟨c', u', l5⟩, l4⟩
    subst e
    exact slots_inj nd k2 l2
/-- behind a call -/
theorem give_sat {as : List Ar} {vs : List V} {as' : List A} (S : Sat K H0 H1 σ ρ) (ha : ArgsOk K σ ρ H0 vs as) (nd : (slots as).Nodup) (st : Step (vs.map some) ((lend ρ as).map some) H0 H1 (vs.map some) (as'.map some) H0' H1') (S' : Sat K H0' H1' (vs.map some) (as'.map some)) :
    Sat K H0' H1' σ (give ρ as as') ∧ Step σ ρ H0 H1 σ (give ρ as as') H0' H1' ∧ ∀ p, Cell σ (give ρ as as') p → Cell σ ρ p := by
  have hlen : as.length = as'.length := by
    have := S'.len
    simp at this
    rw [← this, args_len ha]
  have hown : ∀ (m i : Nat), as[m]? = some (Ar.o i) → ∃ u : O, as'[m]? = some (A.own true u) := fun m i h => by
    obtain ⟨v, h1, h2, b, u, h3, h4⟩ := args_get ha h
    obtain ⟨p, q1, q2, q3⟩ := S.own i b u h3
    rw [h2] at q1; cases q1
    obtain ⟨⟨o, e⟩, _⟩ := st.par m p ⟨⟨u, by rw [List.getElem?_map, h4]; rfl⟩, vals_get h1⟩
    rw [List.getElem?_map] at e
    cases e2 : as'[m]? with
    | none => rw [e2] at e; cases e
    | some y => rw [e2] at e; cases e; exact ⟨o, rfl⟩
  -- a slot behind the call
  have ways : ∀ j : Nat, (∃ (n : Nat) (p : Addr) (b : Bool) (u o : O), as[n]? = some (Ar.o j) ∧ as'[n]? = some (A.own true o) ∧ σ[j]? = some (some (V.ref p)) ∧ ρ[j]? = some (some (A.own b u)) ∧ vs[n]? = some (V.ref p) ∧ (give ρ as as')[j]? = some (some (A.own b o))) ∨ (j ∉ slots as ∧ (give ρ as as')[j]? = ρ[j]?) := fun j => by
    by_cases hj : j ∈ slots as
    · left
      have : ∃ n : Nat, as[n]? = some (.o j) := by
        clear ha nd st hlen hown S'
        induction as with
        | nil => simp [slots] at hj
        | cons a r ih =>
          cases a with
          | d x => obtain ⟨n, h⟩ := ih hj; exact ⟨n + 1, by simpa using h⟩
          | o i =>
            rcases List.mem_cons.mp hj with e | e
            · subst e; exact ⟨0, rfl⟩
            · obtain ⟨n, h⟩ := ih e; exact ⟨n + 1, by simpa using h⟩
      obtain ⟨n, hn⟩ := this
      obtain ⟨v, h1, h2, b, u, h3, h4⟩ := args_get ha hn
      obtain ⟨p, q1, q2, q3⟩ := S.own j b u h3
      rw [h2] at q1; cases q1
      obtain ⟨o, ho⟩ := hown n j hn
      have hl : j < ρ.length := (List.getElem?_eq_some_iff.mp h3).1
      have e := give_in as as' ρ n j o nd hown hlen hn ho hl
      have fl : flag ρ j = b := by unfold flag; rw [h3]
      rw [fl] at e
      exact ⟨n, p, b, u, o, hn, ho, h2, h3, h1, e⟩
    · exact .inr ⟨hj, give_out as as' ρ j hj⟩
  have cels : ∀ p, Cell (vs.map some) ((lend ρ as).map some) p → ∃ i, i ∈ slots as ∧ OwnS σ ρ i p := fun p ⟨n, ⟨b, o, h1⟩, h2⟩ => by
    obtain ⟨v, k1, ⟨d', k2, k3, k4⟩ | ⟨i, c, u, k2, k3, k4, k5⟩⟩ := lend_get ha h1
    · cases k3
    · have e1 := get_vals h2
      rw [k1] at e1; cases e1
      exact ⟨i, slots_mem k2, ⟨c, u, k5⟩, k4⟩
  have ownBack : ∀ j p, OwnS σ (give ρ as as') j p → OwnS σ ρ j p := fun j p ⟨⟨b, o, h1⟩, h2⟩ => by
    rcases ways j with ⟨n, q, b', u, o', k1, k2, k3, k4, k5, k6⟩ | ⟨k1, k2⟩
    · exact ⟨⟨b', u, k4⟩, h2⟩
    · rw [k2] at h1; exact ⟨⟨b, o, h1⟩, h2⟩
  refine ⟨⟨S'.sub, fun j d h => ?_, fun j b o h => ?_, fun i j p h1 h2 => S.dist i j p (ownBack i p h1) (ownBack j p h2), by rw [give_len]; exact S.len⟩, ⟨st.kn, fun a o h => ?_, fun a o h hc => ?_, st.dom, fun a ⟨j, h⟩ => .inl ⟨j, ownBack j a h⟩, fun j p ⟨⟨o, h1⟩, h2⟩ => ?_⟩, fun p ⟨j, h⟩ => ⟨j, ownBack j p h⟩⟩
  · rcases ways j with ⟨n, q, b', u, o', k1, k2, k3, k4, k5, k6⟩ | ⟨k1, k2⟩
    · rw [k6] at h; cases h
    · rw [k2] at h
      obtain ⟨v, h1, h2⟩ := S.val j d h
      exact ⟨v, h1, h2.mono st.kn⟩
  · rcases ways j with ⟨n, q, b', u, o', k1, k2, k3, k4, k5, k6⟩ | ⟨k1, k2⟩
    · rw [k6] at h; cases h
      obtain ⟨p, q1, q2, q3⟩ := S'.own n true o (by rw [List.getElem?_map, k2]; rfl)
      have e := get_vals q1
      rw [k5] at e; cases e
      exact ⟨q, k3, q2, q3⟩
    · rw [k2] at h
      obtain ⟨p, h1, h2, h3⟩ := S.own j b o h
      have nc : ¬ Cell (vs.map some) ((lend ρ as).map some) p := fun c => by
        obtain ⟨i, hi, w⟩ := cels p c
        have e := S.dist i j p w ⟨⟨b, o, h⟩, h1⟩
        subst e
        exact k1 hi
      obtain ⟨y, hy, _⟩ := h3.there
      refine ⟨p, h1, ?_, h3.up st.kn fun u q => st.fr p u q nc⟩
      cases e : H0' p with
      | none => rfl
      | some z =>
        rcases st.new p z e with w | w | w
        · rw [h2] at w; cases w
        · rw [hy] at w; cases w
        · exact (nc w).elim
  · rcases st.new a o h with w | w | w
    · exact .inl w
    · exact .inr (.inl w)
    · obtain ⟨i, _, w⟩ := cels a w
      exact .inr (.inr ⟨i, w⟩)
  · exact st.fr a o h fun c => by
      obtain ⟨i, _, w⟩ := cels a c
      exact hc ⟨i, w⟩
  · rcases ways j with ⟨n, q, b', u, o', k1, k2, k3, k4, k5, k6⟩ | ⟨k1, k2⟩
    · rw [h1] at k4; cases k4
      exact ⟨⟨o', k6⟩, h2⟩
    · exact ⟨⟨o, by rw [k2]; exact h1⟩, h2⟩
end

/-! ### what a def promises -/
abbrev FSp := List A → (List A → A → Prop) → (List A → Addr → Prop) → Prop
def SpOf (K : PySem.W.Frag) (S : FSp) : Sp := fun vs H Q E => ∃ (H0 : Hp) (as : List A) (R : List A → A → Prop) (RX : List A → Addr → Prop), Sat K H0 H (vs.map some) (as.map some) ∧ (∀ b o, .own b o ∈ as → b = true) ∧ S as R RX ∧
  (∀ v H0' H' as' a, Step (vs.map some) (as.map some) H0 H (vs.map some) (as'.map some) H0' H' → Sat K H0' H' (vs.map some) (as'.map some) → Res K H (vs.map some) (as'.map some) H0' H' v a → R as' a → Q v H') ∧
  ∀ C H0' H' as', Step (vs.map some) (as.map some) H0 H (vs.map some) (as'.map some) H0' H' → Sat K H0' H' (vs.map some) (as'.map some) → RX as' C → E (.ref C) none H'
/-- a def of the module that may be called from here -/
structure Cal (X : Cx) (x : Str) (S : FSp) : Prop where
  ex : ∃ (f : Addr) (fd : FuncData) (ps : List Str) (k : Nat), FnOk X.prog X.w X.K X.mg X.base CX0 k f fd ps (SpOf X.K S) ∧ Room k X.A ∧ X.mg x = some (.ref f) ∧ PySem.W.keepIn X.K (.ref f) = true ∧ Binds X.K fd ps []
  hg : Gl X x
  hd : (x == ("__debug__" : Str)) = false
theorem lend_true {ρ : Rho} : ∀ {as : List Ar} {b : Bool} {o : O}, .own b o ∈ lend ρ as → b = true
  | [], _, _, h => by simp [lend] at h
  | .d x :: r, b, o, h => by
    simp only [lend, List.mem_cons] at h
    rcases h with h | h
    · cases h
    · exact lend_true (as := r) h
  | .o i :: r, b, o, h => by
    simp only [lend, List.mem_cons] at h
    rcases h with h | h
    · unfold lend1 at h
      split at h
      · cases h; rfl
      · cases h
    · exact lend_true (as := r) h
section
variable {g : G} {ρ : Rho} {e : Expr} {es : List Expr} {x : Str} {p pos : Pos} {i : Nat} {Q : Rho → A → Prop} {S : FSp}
theorem res_give {K : PySem.W.Frag} {σ : L2.St} {H0 H1 H0' H1' : Hp} {as : List Ar} {vs : List V} {as' : List A} {v : V} {a : A} (Sa : Sat K H0 H1 σ ρ) (r : Res K H1 (vs.map some) (as'.map some) H0' H1' v a) (cb : ∀ p, Cell σ (give ρ as as') p → Cell σ ρ p) : Res K H1 σ (give ρ as as') H0' H1' v a := by
  cases a with
  | val d => exact r
  | own b o =>
    obtain ⟨p, e, h0, hb, hc, w⟩ := r
    refine ⟨p, e, h0, hb, fun c => ?_, w⟩
    obtain ⟨j, ⟨b', o', h1⟩, h2⟩ := cb p c
    obtain ⟨q, q1, q2, q3⟩ := Sa.own j b' o' h1
    rw [h2] at q1; cases q1
    obtain ⟨y, hy, _⟩ := q3.there
    rw [hb] at hy; cases hy
theorem we_callS {t : TA} (h : WL g t ρ fun ρ1 as => (slots as).Nodup ∧ S (lend ρ1 as) (fun as' a => Q (give ρ1 as as') a) fun _ _ => False) : WE g (tCall (SpOf g.X.K S) [] E0 t) ρ Q := fun σ H0 H1 Sa T Qv k =>
  h σ H0 H1 Sa T _ fun vs H0' H1' ρ' as st S' ra ⟨nd, q⟩ => by
    show SpOf g.X.K S (vs ++ []) H1' Qv E0
    rw [List.append_nil]
    refine ⟨H0', lend ρ' as, _, _, lend_sat S' ra nd, fun b o h => lend_true h, q, fun v H0'' H1'' as' a st2 S2 r2 q2 => ?_, fun C H0'' H1'' as' st2 S2 q2 => q2.elim⟩
    obtain ⟨S3, st3, cb⟩ := give_sat S' ra nd st2 S2
    exact k v H0'' H1'' _ a (st.trans st3) S3 (res_back (res_give S' r2 cb) fun p e => st.dom p e) q2
/-- f(e, ..), f a def of the module that lets no exception out -/
theorem g_call (c : Cal g.X x S) (h : GoL g (e :: es) ρ fun ρ1 as => (slots as).Nodup ∧ S (lend ρ1 as) (fun as' a => Q (give ρ1 as as') a) fun _ _ => False)
    (he : starEach (e :: es) g.X.env = (false, eval e g.X.env) :: starEach es g.X.env := by rfl) (hpl : (backTo pos (starEach es g.X.env)).any (·.1) = false := by rfl) : GoE g (.Call (.Name x p) (e :: es) [] pos) ρ Q := by
  obtain ⟨f, fd, ps, k, F, hr, hm, hk, hb⟩ := c.ex
  exact e_of (pe_call F hr c.hg hm hk hb .nil pass0 pXA c.hd he hpl) (we_callS h)
end

/-! ### a def, by its body -/
/-- the arguments as they lie at the end -/
def back : List A → Rho → List A
  | [], _ => []
  | .val d :: r, ρ => .val d :: back r ρ.tail
  | .own b o :: r, ρ => (match ρ.head? with
    | some (some (.own _ u)) => .own true u
    | _ => .own b o) :: back r ρ.tail
def entry (N : List Str) (as : List A) : Rho := as.map some ++ List.replicate (N.length - as.length) none
theorem back_len : ∀ (as : List A) (ρ : Rho), (back as ρ).length = as.length
  | [], _ => rfl
  | .val _ :: r, ρ => by simp [back, back_len r]
  | .own _ _ :: r, ρ => by simp [back, back_len r]
theorem back_get : ∀ {as : List A} {ρ : Rho} {n : Nat} {a : A}, as[n]? = some a → (∀ d, a = .val d → (back as ρ)[n]? = some (.val d)) ∧ (∀ b o u, a = .own b o → ρ[n]? = some (some (A.own true u)) → (back as ρ)[n]? = some (A.own true u))
  | [], _, _, _, h => by simp at h
  | .val d :: r, ρ, 0, a, h => by
    simp at h; subst h
    exact ⟨fun d' e => by cases e; rfl, fun b o u e => (by cases e)⟩
  | .own b o :: r, ρ, 0, a, h => by
    simp at h; subst h
    refine ⟨fun d' e => (by cases e), fun b' o' u e h => ?_⟩
    cases ρ with
    | nil => simp at h
    | cons y s => simp at h; subst h; rfl
  | .val d :: r, ρ, n + 1, a, h => by
    obtain ⟨h1, h2⟩ := back_get (as := r) (ρ := ρ.tail) (n := n) (a := a) (by simpa using h)
    exact ⟨fun d' e => by simpa [back] using h1 d' e, fun b o u e q => by simpa [back] using h2 b o u e (by cases ρ <;> simpa using q)⟩
  | .own c w :: r, ρ, n + 1, a, h => by
    obtain ⟨h1, h2⟩ := back_get (as := r) (ρ := ρ.tail) (n := n) (a := a) (by simpa using h)
    exact ⟨fun d' e => by simpa [back] using h1 d' e, fun b o u e q => by simpa [back] using h2 b o u e (by cases ρ <;> simpa using q)⟩
section
variable {K : PySem.W.Frag} {N : List Str} {vs : List V} {as : List A} {σ' : L2.St} {ρ' : Rho} {H0 H1 H0' H1' : Hp}
theorem entry_get {n : Nat} {x : A} (h : (entry N as)[n]? = some (some x)) : as[n]? = some x := by
  unfold entry at h
  by_cases hl : n < as.length
  · rw [List.getElem?_append_left (by simpa using hl), List.getElem?_map] at h
    cases e : as[n]? with
    | none => rw [e] at h; cases h
    | some y => rw [e] at h; cases h; rfl
  · rw [List.getElem?_append_right (by simpa using hl), List.getElem?_replicate] at h
    split at h <;> cases h
theorem entry_of {n : Nat} {x : A} (h : as[n]? = some x) : (entry N as)[n]? = some (some x) := by
  unfold entry
  have hl := (List.getElem?_eq_some_iff.mp h).1
  rw [List.getElem?_append_left (by simpa using hl), List.getElem?_map, h]
  rfl
theorem start_get {n : Nat} {v : V} (h : (L2.start N vs)[n]? = some (some v)) : vs[n]? = some v := by
  unfold L2.start at h
  by_cases hl : n < vs.length
  · rw [List.getElem?_append_left (by simpa using hl), List.getElem?_map] at h
    cases e : vs[n]? with
    | none => rw [e] at h; cases h
    | some y => rw [e] at h; cases h; rfl
  · rw [List.getElem?_append_right (by simpa using hl), List.getElem?_replicate] at h
    split at h <;> cases h
theorem start_of {n : Nat} {v : V} (h : vs[n]? = some v) : (L2.start N vs)[n]? = some (some v) := by
  unfold L2.start
  have hl := (List.getElem?_eq_some_iff.mp h).1
  rw [List.getElem?_append_left (by simpa using hl), List.getElem?_map, h]
  rfl
theorem map_get {n : Nat} {x : A} (h : (as.map some)[n]? = some (some x)) : as[n]? = some x := by
  rw [List.getElem?_map] at h
  cases e : as[n]? with
  | none => rw [e] at h; cases h
  | some y => rw [e] at h; cases h; rfl
theorem map_of {n : Nat} {x : A} (h : as[n]? = some x) : (as.map some)[n]? = some (some x) := by rw [List.getElem?_map, h]; rfl
theorem entry_sat (S : Sat K H0 H1 (vs.map some) (as.map some)) : Sat K H0 H1 (L2.start N vs) (entry N as) := by
  have hl : vs.length = as.length := by have := S.len; simpa using this
  refine ⟨S.sub, fun i d h => ?_, fun i b o h => ?_, fun i j p ⟨⟨b, o, h1⟩, h2⟩ ⟨⟨b', o', h3⟩, h4⟩ => ?_, by simp [L2.start, entry, hl]⟩
  · obtain ⟨v, h1, h2⟩ := S.val i d (map_of (entry_get h))
    exact ⟨v, start_of (get_vals h1), h2⟩
  · obtain ⟨p, h1, h2⟩ := S.own i b o (map_of (entry_get h))
    exact ⟨p, start_of (get_vals h1), h2⟩
  · exact S.dist i j p ⟨⟨b, o, map_of (entry_get h1)⟩, vals_get (start_get h2)⟩ ⟨⟨b', o', map_of (entry_get h3)⟩, vals_get (start_get h4)⟩
/-- the def's end, as the caller sees it -/
theorem back_sat (S : Sat K H0 H1 (vs.map some) (as.map some)) (tr : ∀ b o, .own b o ∈ as → b = true) (st : Step (L2.start N vs) (entry N as) H0 H1 σ' ρ' H0' H1') (S' : Sat K H0' H1' σ' ρ') :
    Step (vs.map some) (as.map some) H0 H1 (vs.map some) ((back as ρ').map some) H0' H1' ∧ Sat K H0' H1' (vs.map some) ((back as ρ').map some) ∧
      (∀ p, Cell (vs.map some) ((back as ρ').map some) p → Cell (vs.map some) (as.map some) p ∧ Cell σ' ρ' p) ∧ ∀ p, Cell (L2.start N vs) (entry N as) p → Cell (vs.map some) ((back as ρ').map some) p := by
  have hl : vs.length = as.length := by have := S.len; simpa using this
  -- an own argument
  have keep : ∀ (n : Nat) (b : Bool) (o : O), as[n]? = some (A.own b o) → ∃ (p : Addr) (u : O), vs[n]? = some (V.ref p) ∧ σ'[n]? = some (some (V.ref p)) ∧ ρ'[n]? = some (some (A.own true u)) ∧ (back as ρ')[n]? = some (A.own true u) := fun n b o h => by
    obtain ⟨p, h1, h2⟩ := S.own n b o (map_of h)
    have e := tr b o (List.mem_of_getElem? h)
    subst e
    obtain ⟨⟨u, k1⟩, k2⟩ := st.par n p ⟨⟨o, entry_of h⟩, start_of (get_vals h1)⟩
    exact ⟨p, u, get_vals h1, k2, k1, (back_get h).2 true o u rfl k1⟩
  have way : ∀ (n : Nat) (x : A), (back as ρ')[n]? = some x → (∃ d, as[n]? = some (A.val d) ∧ x = .val d) ∨ ∃ (b : Bool) (o : O) (p : Addr) (u : O), as[n]? = some (A.own b o) ∧ x = .own true u ∧ vs[n]? = some (V.ref p) ∧ σ'[n]? = some (some (V.ref p)) ∧ ρ'[n]? = some (some (A.own true u)) := fun n x h => by
    have hn : n < as.length := by have := (List.getElem?_eq_some_iff.mp h).1; rw [back_len] at this; exact this
    have ha := List.getElem?_eq_getElem hn
    cases e : as[n] with
    | val d =>
      rw [e] at ha
      have q := (back_get (ρ := ρ') ha).1 d rfl
      rw [h] at q; cases q
      exact .inl ⟨d, ha, rfl⟩
    | own b o =>
      rw [e] at ha
      obtain ⟨p, u, k1, k2, k3, k4⟩ := keep n b o ha
      rw [h] at k4; cases k4
      exact .inr ⟨b, o, p, u, ha, rfl, k1, k2, k3⟩
  have cback : ∀ n p, OwnS (vs.map some) ((back as ρ').map some) n p → OwnS (vs.map some) (as.map some) n p ∧ OwnS σ' ρ' n p := fun n p ⟨⟨b, o, h1⟩, h2⟩ => by
    rcases way n _ (map_get h1) with ⟨d, k1, k2⟩ | ⟨b', o', q, u, k1, k2, k3, k4, k5⟩
    · cases k2
    · have e := get_vals h2
      rw [k3] at e; cases e
      exact ⟨⟨⟨b', o', map_of k1⟩, h2⟩, ⟨⟨true, u, k5⟩, k4⟩⟩
  have cin : ∀ p, Cell (L2.start N vs) (entry N as) p → Cell (vs.map some) (as.map some) p := fun p ⟨n, ⟨b, o, h1⟩, h2⟩ => ⟨n, ⟨b, o, map_of (entry_get h1)⟩, vals_get (start_get h2)⟩
  have cin2 : ∀ p, Cell (L2.start N vs) (entry N as) p → Cell (vs.map some) ((back as ρ').map some) p := fun p ⟨n, ⟨b, o, h1⟩, h2⟩ => by
    obtain ⟨q, u, k1, k2, k3, k4⟩ := keep n b o (entry_get h1)
    have e := start_get h2
    rw [k1] at e; cases e
    exact ⟨n, ⟨true, u, map_of k4⟩, vals_get k1⟩
  refine ⟨⟨st.kn, fun a o h => ?_, fun a o h hc => st.fr a o h fun c => hc (cin a c), st.dom, fun a ⟨n, h⟩ => .inl ⟨n, (cback n a h).1⟩, fun n p ⟨⟨o, h1⟩, h2⟩ => ?_⟩, ⟨S'.sub, fun n d h => ?_, fun n b o h => ?_, fun i j p h1 h2 => S.dist i j p (cback i p h1).1 (cback j p h2).1, by simp [back_len, hl]⟩, fun p ⟨n, h⟩ => ⟨⟨n, (cback n p h).1⟩, ⟨n, (cback n p h).2⟩⟩, cin2⟩
  · rcases st.new a o h with w | w | w
    · exact .inl w
    · exact .inr (.inl w)
    · exact .inr (.inr (cin a w))
  · obtain ⟨q, u, k1, k2, k3, k4⟩ := keep n true o (map_get h1)
    exact ⟨⟨u, map_of k4⟩, h2⟩
  · rcases way n _ (map_get h) with ⟨d', k1, k2⟩ | ⟨b', o', q, u, k1, k2, k3, k4, k5⟩
    · cases k2
      obtain ⟨v, h1, h2⟩ := S.val n d (map_of k1)
      exact ⟨v, h1, h2.mono st.kn⟩
    · cases k2
  · rcases way n _ (map_get h) with ⟨d', k1, k2⟩ | ⟨b', o', q, u, k1, k2, k3, k4, k5⟩
    · cases k2
    · cases k2
      obtain ⟨p, h1, h2⟩ := S'.own n true o k5
      rw [k4] at h1; cases h1
      exact ⟨q, vals_get k3, h2⟩
end
end FW

set_option Elab.async false
set_option linter.all false
set_option maxRecDepth 100000
set_option maxHeartbeats 4000000
namespace FW
open PySem PySem.Spec PyProof.Rows L2

/-! ### where a walk stands, by the def -/
structure Here (P : Program) (w : World) (K : PySem.W.Frag) (mg : Str → Option Value) (base : Heap) (N : List Str) (sc : Scope) (k : Nat) (fl : Bool) (g : G) : Prop where
  prog : g.X.prog = P
  w : g.X.w = w
  K : g.X.K = K
  mg : g.X.mg = mg
  base : g.X.base = base
  N : g.X.N = N
  scn : ∀ (x : Str) (kd : NameKind), sc.names.lookup x = some kd → ∃ kd', g.X.env.scope.names.lookup x = some kd' ∧ (kd' = kd ∨ (kd = .free ∧ kd' = .cell))
  room : Room k g.X.A
  calm : g.X.calm = true
  po : PassesOwn (model g.X.prog g.X.w) g.X.A g.X.env g.X.xe
  nd : g.X.N.Nodup
  fn : fl = true → ∀ x, g.X.fn x = true
  sce : fl = true → g.X.env.scope = sc
  kind : g.X.env.scope.kind = .function
/-- a def that may be called by its name -/
def GDef (P : Program) (w : World) (K : PySem.W.Frag) (mg : Str → Option Value) (base : Heap) (x : Str) (k : Nat) (S : FSp) : Prop :=
  ∃ (f : Addr) (fd : FuncData) (ps : List Str), FnOk P w K mg base CX0 k f fd ps (SpOf K S) ∧ mg x = some (.ref f) ∧ PySem.W.keepIn K (.ref f) = true ∧ Binds K fd ps []
/-- the names of a scope, looked at once -/
def okV (N : List Str) (sc : Scope) (l : List (Str × Nat)) : Bool := l.all fun p => decide (N[p.2]? = some p.1) && !(p.1 == ("__debug__" : Str)) && !(p.1 == ("__classdict__" : Str)) &&
  (match sc.names.lookup p.1 with | some .local => true | some .cell => true | some .free => true | _ => false)
def okW (N : List Str) (sc : Scope) (l : List (Str × Nat)) : Bool := l.all fun p => decide (N[p.2]? = some p.1) && (match sc.names.lookup p.1 with | some .local => true | some .cell => true | _ => false)
def okG (sc : Scope) (l : List Str) : Bool := l.all fun x => !(x == ("__debug__" : Str)) && !(x == ("__name__" : Str)) && (match sc.names.lookup x with | some .globalImplicit => true | _ => false)
section
variable {P : Program} {w : World} {K : PySem.W.Frag} {mg : Str → Option Value} {base : Heap} {N : List Str} {sc : Scope} {k : Nat} {fl : Bool} {g : G}
theorem Here.ct (h : Here P w K mg base N sc k fl g) : Ct g.X k := ⟨h.room, h.calm, h.po, h.nd, h.kind⟩
theorem Here.v (h : Here P w K mg base N sc k fl g) {l : List (Str × Nat)} (ok : okV N sc l = true) {x : Str} {i : Nat} (m : (x, i) ∈ l) : SlotV g.X x i := by
  have q := List.all_eq_true.mp ok (x, i) m
  simp only [Bool.and_eq_true, decide_eq_true_eq, Bool.not_eq_true'] at q
  obtain ⟨⟨⟨q1, q2⟩, q3⟩, q4⟩ := q
  refine ⟨by rw [h.N]; exact q1, ?_, q2, q3⟩
  unfold Vis
  split at q4
  · rename_i e
    obtain ⟨kd, h1, rfl | ⟨z, _⟩⟩ := h.scn _ _ e
    · exact .inl h1
    · cases z
  · rename_i e
    obtain ⟨kd, h1, rfl | ⟨z, _⟩⟩ := h.scn _ _ e
    · exact .inr (.inl h1)
    · cases z
  · rename_i e
    obtain ⟨kd, h1, rfl | ⟨_, rfl⟩⟩ := h.scn _ _ e
    · exact .inr (.inr h1)
    · exact .inr (.inl h1)
  · cases q4
theorem Here.s (h : Here P w K mg base N sc k true g) {l : List (Str × Nat)} (ok : okW N sc l = true) {x : Str} {i : Nat} (m : (x, i) ∈ l) : SlotW g.X x i := by
  have q := List.all_eq_true.mp ok (x, i) m
  simp only [Bool.and_eq_true, decide_eq_true_eq] at q
  obtain ⟨q1, q4⟩ := q
  refine ⟨h.nd, by rw [h.N]; exact q1, ?_, .inl (h.fn rfl x)⟩
  unfold L2.Loc
  split at q4
  · rename_i e
    obtain ⟨kd, h1, rfl | ⟨z, _⟩⟩ := h.scn _ _ e
    · exact .inl h1
    · cases z
  · rename_i e
    obtain ⟨kd, h1, rfl | ⟨z, _⟩⟩ := h.scn _ _ e
    · exact .inr h1
    · cases z
  · cases q4
theorem Here.l (h : Here P w K mg base N sc k fl g) {l : List Str} (ok : (l.all fun x => match sc.names.lookup x with | some .local => true | _ => false) = true) {x : Str} (m : x ∈ l) : Lcl g.X x := by
  have q := List.all_eq_true.mp ok x m
  unfold Lcl
  split at q
  · rename_i e
    obtain ⟨kd, h1, rfl | ⟨z, _⟩⟩ := h.scn _ _ e
    · exact h1
    · cases z
  · cases q
theorem Here.gl (h : Here P w K mg base N sc k fl g) {l : List Str} (ok : okG sc l = true) {x : Str} (m : x ∈ l) : Gl g.X x ∧ (x == ("__debug__" : Str)) = false ∧ x ≠ "__name__" := by
  have q := List.all_eq_true.mp ok x m
  simp only [Bool.and_eq_true, Bool.not_eq_true'] at q
  obtain ⟨⟨q1, q2⟩, q4⟩ := q
  refine ⟨?_, q1, fun e => by rw [e] at q2; exact absurd q2 (by decide +kernel)⟩
  show g.X.env.scope.names.lookup x = some .globalImplicit
  split at q4
  · rename_i e
    obtain ⟨kd, h1, rfl | ⟨z, _⟩⟩ := h.scn _ _ e
    · exact h1
    · cases z
  · cases q4
theorem Here.cal (h : Here P w K mg base N sc k fl g) {l : List Str} (ok : okG sc l = true) {x : Str} {j : Nat} {S : FSp} (d : GDef P w K mg base x j S) (hj : j ≤ k) (m : x ∈ l) : Cal g.X x S := by
  obtain ⟨f, fd, ps, F, hm, hk, hb⟩ := d
  obtain ⟨q1, q2, _⟩ := h.gl ok m
  obtain ⟨e1, e2, e3, e4, e5, _, _, hr, _, _, _, _, _, _⟩ := h
  subst e1; subst e2; subst e3; subst e4; subst e5
  exact ⟨⟨f, fd, ps, j, F, hr.mono hj, hm, hk, hb⟩, q1, q2⟩
theorem Here.blt (h : Here P w K mg base N sc k fl g) {l : List Str} (ok : okG sc l = true) {x : Str} {u : Value} (hm : mg x = none) (hv : bootBuiltins x = some u) (m : x ∈ l) : Blt g.X x u := by
  obtain ⟨q1, q2, q3⟩ := h.gl ok m
  exact ⟨q1, by rw [h.mg]; exact hm, hv, q3, q2⟩
theorem Here.glo (h : Here P w K mg base N sc k fl g) {l : List Str} (ok : okG sc l = true) {x : Str} {d : D} (hm : ∃ u v, mg x = some u ∧ RelV v u ∧ ∀ H, Rep K H v d) (m : x ∈ l) : Glo g.X x d := by
  obtain ⟨q1, q2, q3⟩ := h.gl ok m
  exact ⟨q1, q2, by rw [h.mg, h.K]; exact hm⟩
/-- THE RULE: a def by its body -/
theorem fok {x qual : Str} {st : Stmt} {f : Addr} {fd : FuncData} {ps : List Str} {S : FSp} (F : L2.Fun K x qual st f fd) (Sc : FnScope N ps (defScope st)) (len : ∀ as R RX, S as R RX → as.length = ps.length)
    (hb : ∀ (g : G) (as : List A) (R : List A → A → Prop) (RX : List A → Addr → Prop), Here P w K mg base N (defScope st) k true g → S as R RX → GoB g (defBody st) (entry N as) ⟨fun ρ => R (back as ρ) (.val .non), fun ρ a => R (back as ρ) a, fun _ => False, fun _ => False⟩) :
    FnOk P w K mg base CX0 (k + 1) f fd ps (SpOf K S) := by
  refine F.ok Sc (fun vs H Q E h => ?_) (fun cdv A outer s H vs Q E hr h => ?_)
  · obtain ⟨H0, as, R, RX, Sa, _, hS, _⟩ := h
    have e := Sa.len
    simp at e
    rw [e]
    exact len as R RX hS
  · obtain ⟨H0, as, R, RX, Sa, tr, hS, q1, q2⟩ := h
    have he : Here P w K mg base N (defScope st) k true ⟨(cxOf CX0 P w K mg base N qual (defScope st) f cdv A outer s H E).nox, fun _ _ => False⟩ := ⟨rfl, rfl, rfl, rfl, rfl, rfl, fun x kd e => ⟨kd, e, .inl rfl⟩, hr, rfl, PassesOwn.never, Sc.nd, fun _ _ => rfl, fun _ => rfl, Sc.kind⟩
    refine ⟨_, pXSs, hb _ as R RX he hS (L2.start N vs) H0 H (entry_sat Sa) ?_ _ ⟨fun σ' H0' H1' ρ' s1 s2 q => ?_, fun v σ' H0' H1' ρ' a s1 s2 r q => ?_, fun σ' H0' H1' ρ' s1 s2 q => False.elim q, fun σ' H0' H1' ρ' s1 s2 q => False.elim q⟩⟩
    · exact takes0.imp fun c d σ' H' ⟨C, _, _, _, _, _, _, z⟩ => z
    · obtain ⟨b1, b2, b3, b4⟩ := back_sat Sa tr s1 s2
      exact q1 _ _ _ _ (.val .non) b1 b2 (show V.non = V.non from rfl) q
    · obtain ⟨b1, b2, b3, b4⟩ := back_sat Sa tr s1 s2
      refine q1 v _ _ _ a b1 b2 ?_ q
      cases a with
      | val d => exact r
      | own b o =>
        obtain ⟨p, e, h0, hp, hc, w⟩ := r
        refine ⟨p, e, h0, ?_, fun c => hc (b3 p c).2, w⟩
        rcases hp with z | z
        · exact (hc (b3 p (b4 p z)).2).elim
        · exact z
end

/-! ### own objects by their names -/
section
variable {K : PySem.W.Frag} {σ : L2.St} {ρ : Rho} {H0 H1 : Hp} {i : Nat}
/-- an own object is written -/
theorem sat_write {p : Addr} {b : Bool} {o o' : O} {u : HO} (S : Sat K H0 H1 σ ρ) (h : ρ[i]? = some (some (.own b o))) (hs : σ[i]? = some (some (.ref p))) (w : OwnAt K H0 (upd H1 p u) p o') :
    Sat K H0 (upd H1 p u) σ (ρ.set i (some (.own b o'))) ∧ Step σ ρ H0 H1 σ (ρ.set i (some (.own b o'))) H0 (upd H1 p u) := by
  have hl : i < ρ.length := (List.getElem?_eq_some_iff.mp h).1
  obtain ⟨p', h1, h2, h3⟩ := S.own i b o h
  rw [hs] at h1; cases h1
  obtain ⟨y, hy, _⟩ := h3.there
  have sub : ∀ j q, OwnS σ (ρ.set i (some (.own b o'))) j q → OwnS σ ρ j q := fun j q ⟨⟨c, v, e1⟩, e2⟩ => by
    by_cases z : j = i
    · subst z; exact ⟨⟨b, o, h⟩, e2⟩
    · rw [get_set_ne z] at e1; exact ⟨⟨c, v, e1⟩, e2⟩
  refine ⟨⟨fun a v q => ?_, fun j d q => ?_, fun j c v q => ?_, fun j l q e1 e2 => S.dist j l q (sub j q e1) (sub l q e2), by simp [S.len]⟩, ⟨L2.Same.refl _, fun a v q => .inl q, fun a v q hc => ?_, fun a q => ?_, fun a ⟨j, e⟩ => .inl ⟨j, sub j a e⟩, fun j q ⟨⟨v, e1⟩, e2⟩ => ?_⟩⟩
  · rw [upd_ne (ne_of_none q h2)]; exact S.sub a v q
  · by_cases z : j = i
    · subst z; rw [List.getElem?_set_self hl] at q; cases q
    · rw [get_set_ne z] at q; exact S.val j d q
  · by_cases z : j = i
    · subst z
      rw [List.getElem?_set_self hl] at q; cases q
      exact ⟨p, hs, h2, w⟩
    · rw [get_set_ne z] at q
      obtain ⟨p2, k1, k2, k3⟩ := S.own j c v q
      have ne : p2 ≠ p := fun e => z (S.dist j i p2 ⟨⟨c, v, q⟩, k1⟩ ⟨⟨b, o, h⟩, by rw [e]; exact hs⟩)
      exact ⟨p2, k1, k2, k3.up (L2.Same.refl _) fun u' q' => by rw [upd_ne ne]; exact q'⟩
  · have ne : a ≠ p := fun e => hc ⟨i, ⟨b, o, h⟩, by rw [e]; exact hs⟩
    rw [upd_ne ne]; exact q
  · by_cases z : a = p
    · subst z; rw [upd_same] at q; cases q
    · rw [upd_ne z] at q; exact q
  · by_cases z : j = i
    · subst z
      rw [h] at e1; cases e1
      exact ⟨⟨o', List.getElem?_set_self hl⟩, e2⟩
    · exact ⟨⟨v, by rw [get_set_ne z]; exact e1⟩, e2⟩
/-- own objects out of sight, but the one at i, which is read as data -/
def peek (ρ : Rho) (i : Nat) (o : O) : Rho := (ρ.map fun x => match x with
  | some (.val d) => some (.val d)
  | _ => none).set i (some (.val o.frz))
def flatD : D → Bool
  | .non => true
  | .bl _ => true
  | .int _ => true
  | .str _ => true
  | .ref _ => true
  | .ty _ => true
  | _ => false
theorem flat_rep {H H' : Hp} {v : V} {d : D} (f : flatD d = true) (r : Rep K H v d) : Rep K H' v d := by
  cases d <;> first | exact r | cases f
theorem peek_no {o : O} {j : Nat} {b : Bool} {u : O} (h : (peek ρ i o)[j]? = some (some (.own b u))) : False := by
  unfold peek at h
  by_cases z : j = i
  · subst z
    by_cases hl : j < (ρ.map fun x => match x with | some (.val d) => some (A.val d) | _ => none).length
    · rw [List.getElem?_set_self hl] at h; cases h
    · rw [List.getElem?_eq_none (by simpa using Nat.le_of_not_lt hl)] at h; cases h
  · rw [get_set_ne z, List.getElem?_map] at h
    cases e : ρ[j]? with
    | none => rw [e] at h; cases h
    | some y =>
      rw [e] at h
      simp only [Option.map_some, Option.some.injEq] at h
      split at h <;> cases h
theorem peek_sat {p : Addr} {b : Bool} {o : O} (S : Sat K H0 H1 σ ρ) (h : ρ[i]? = some (some (.own b o))) : ∃ Ht, Same H0 Ht ∧ Sat K Ht H1 σ (peek ρ i o) := by
  obtain ⟨p, h1, h2, h3⟩ := S.own i b o h
  have hl : i < ρ.length := (List.getElem?_eq_some_iff.mp h).1
  obtain ⟨u, hu, k⟩ := h3.there
  have e0 : Same H0 (upd H0 p u) := fun a v q => by rw [upd_ne (ne_of_none q h2)]; exact q
  have rp : Rep K (upd H0 p u) (.ref p) o.frz := by
    cases o with
    | lst ds =>
      obtain ⟨vs, k1, k2⟩ := h3
      rw [hu] at k1; cases k1
      exact rep_lst upd_same (k2.mono e0)
    | dic ks ds =>
      obtain ⟨ws, k1, k2, k3⟩ := h3
      rw [hu] at k1; cases k1
      exact rep_dic (.inl upd_same) k2 (k3.mono e0)
  refine ⟨upd H0 p u, e0, fun a v q => ?_, fun j d q => ?_, fun j c v q => (peek_no q).elim, fun j l q e1 _ => by obtain ⟨⟨c, v, e⟩, _⟩ := e1; exact (peek_no e).elim, by simp [peek, S.len]⟩
  · by_cases z : a = p
    · subst z; rw [upd_same] at q; cases q; exact hu
    · rw [upd_ne z] at q; exact S.sub a v q
  · unfold peek at q
    by_cases z : j = i
    · subst z
      rw [List.getElem?_set_self (by simpa using hl)] at q
      cases q
      exact ⟨_, h1, rp⟩
    · rw [get_set_ne z, List.getElem?_map] at q
      cases e : ρ[j]? with
      | none => rw [e] at q; cases q
      | some y =>
        rw [e] at q
        simp only [Option.map_some, Option.some.injEq] at q
        split at q
        · rename_i d' ; cases q
          obtain ⟨v, q1, q2⟩ := S.val j d e
          exact ⟨v, q1, q2.mono e0⟩
        · cases q
/-- behind a look: nothing that stood has changed -/
theorem peek_back {Ht H0' H1' : Hp} {o : O} {ρ' : Rho} (S : Sat K H0 H1 σ ρ) (st : Step σ (peek ρ i o) Ht H1 σ ρ' H0' H1') : Sat K H0 H1' σ ρ ∧ Step σ ρ H0 H1 σ ρ H0 H1' := by
  have nc : ∀ a, ¬ Cell σ (peek ρ i o) a := fun a ⟨j, ⟨c, v, e⟩, _⟩ => peek_no e
  have sm : Same H1 H1' := fun a v q => st.fr a v q (nc a)
  exact ⟨⟨L2.Same.trans S.sub sm, S.val, fun j c v q => by obtain ⟨p, k1, k2, k3⟩ := S.own j c v q; exact ⟨p, k1, k2, k3.up (L2.Same.refl _) fun u q => sm p u q⟩, S.dist, S.len⟩,
    ⟨L2.Same.refl _, fun a v q => .inl q, fun a v q _ => sm a v q, st.dom, fun a q => .inl q, fun j p q => q⟩⟩
end

section
variable {g : G} {ρ : Rho} {a b e : Expr} {es : List Expr} {pos p p2 : Pos} {j i : Nat} {x : Str} {Q : Rho → D → Prop} {R : Rho → Bool → Prop}
end
end FW

set_option Elab.async false
set_option linter.all false
set_option maxRecDepth 100000
set_option maxHeartbeats 4000000
namespace FW
open PySem PySem.Spec PyProof.Rows L2

/-- the same place, nothing let out -/
abbrev G.q (g : G) : G := ⟨g.X, fun _ _ => False⟩
theorem Tk.q {g : G} {σ σ' : L2.St} {ρ ρ' : Rho} {H0 H1 H0' H1' : Hp} (T : Tk g σ ρ H0 H1) : Tk g.q σ' ρ' H0' H1' := T.imp fun c d σ2 H2 ⟨_, _, _, _, _, _, _, z⟩ => z.elim

section
variable {g : G} {k : Nat} {ρ : Rho} {a b c e : Expr} {es : List Expr} {pos p p2 apos : Pos} {j i : Nat} {x : Str} {Q : Rho → D → Prop} {R : Rho → Bool → Prop}
/-! ### own objects, looked at -/
theorem g_peek {bb : Bool} {o : O} (h : ρ[i]? = some (some (.own bb o))) (q : GoV g.q e (peek ρ i o) fun _ d => flatD d = true ∧ Q ρ d) : GoV g e ρ Q := fun σ H0 H1 S T Qv k => by
  obtain ⟨Ht, _, St⟩ := peek_sat (p := 0) S h
  refine q σ Ht H1 St (T.q) Qv fun v H0' H1' ρ' d st S' r ⟨f, qq⟩ => ?_
  obtain ⟨S2, st2⟩ := peek_back S st
  exact k v H0 H1' ρ d st2 S2 (flat_rep f r) qq
theorem t_peek {bb : Bool} {o : O} (h : ρ[i]? = some (some (.own bb o))) (q : GoT g.q e (peek ρ i o) fun _ b => R ρ b) : GoT g e ρ R := fun σ H0 H1 S T Qv k => by
  obtain ⟨Ht, _, St⟩ := peek_sat (p := 0) S h
  refine q σ Ht H1 St (T.q) Qv fun H0' H1' ρ' d st S' qq => ?_
  obtain ⟨S2, st2⟩ := peek_back S st
  exact k H0 H1' ρ d st2 S2 qq
/-! ### subscripts -/
def seqD : D → Option (List D)
  | .tup ds => some ds
  | .lst ds => some ds
  | .rdl ds => some ds
  | _ => none
theorem atI_rep {K : PySem.W.Frag} {H : Hp} {vs : List V} {ds : List D} {n : Int} {d : D} (r : Reps K H vs ds) (h : atI ds n = some d) : ∃ v, atI vs n = some v ∧ Rep K H v d := by
  unfold atI at h ⊢
  rw [r.length]
  cases e : ixN ds.length n with
  | none => rw [e] at h; cases h
  | some j => rw [e] at h; exact r.get h
theorem g_ix (h : GoV g a ρ fun ρ1 x => GoV g b ρ1 fun ρ2 y => ∃ n ds d, y = .int n ∧ seqD x = some ds ∧ atI ds n = some d ∧ Q ρ2 d) (hs : PlainIx b := by exact fun _ _ => rfl) : GoV g (.Subscript a b pos) ρ Q :=
  v_of (pe_ix ix_seq pX pX hs) (wv_op (h.imp fun r x h' => h'.imp fun r' y ⟨n, ds, d, e1, e2, e3, q⟩ => by
    subst e1
    intro σ H0 H1 S T v u h1 h2 Qv kk
    cases (show u = _ from h2)
    cases x with
    | tup ds' =>
      cases e2
      obtain ⟨p, vs, rfl, hp, rr⟩ := h1
      obtain ⟨v, z1, z2⟩ := atI_rep rr e3
      exact .inr (.inl ⟨p, vs, n, v, rfl, rfl, Same.tup S.sub hp, z1, kk v H0 H1 r' d Step.refl S z2 q⟩)
    | lst ds' =>
      cases e2
      obtain ⟨p, vs, rfl, hp, rr⟩ := h1
      obtain ⟨v, z1, z2⟩ := atI_rep rr e3
      exact .inl ⟨p, vs, n, v, rfl, rfl, SqL.of (S.sub _ _ hp), z1, kk v H0 H1 r' d Step.refl S z2 q⟩
    | rdl ds' =>
      cases e2
      obtain ⟨p, vs, rfl, hp, rr⟩ := h1
      obtain ⟨v, z1, z2⟩ := atI_rep rr e3
      exact .inl ⟨p, vs, n, v, rfl, rfl, L2.Same.seq S.sub hp, z1, kk v H0 H1 r' d Step.refl S z2 q⟩
    | _ => cases e2))
/-- own[e] -/
theorem g_ixO (s : SlotV g.X x i) {bb : Bool} {o : O} (ho : ρ[i]? = some (some (.own bb o))) (h : GoV g b ρ fun ρ1 y => ∃ n b1 ds d, y = .int n ∧ ρ1[i]? = some (some (.own b1 (.lst ds))) ∧ atI ds n = some d ∧ Q ρ1 d) (hs : PlainIx b := by exact fun _ _ => rfl) : GoV g (.Subscript (.Name x p) b pos) ρ Q :=
  v_of (pe_ix ix_list (pe_var s.hN s.hv s.hd s.hc) pX hs) fun σ H0 H1 S T Qv kk => by
    obtain ⟨pp, h1, h2, h3⟩ := S.own i bb o ho
    refine ⟨.ref pp, h1, h σ H0 H1 S T _ fun v H0' H1' ρ' y st S' r ⟨n, b1, ds, d, e1, e2, e3, q⟩ => ?_⟩
    subst e1
    cases (show v = _ from r)
    obtain ⟨p2, k1, k2, vs, k3, k4⟩ := S'.own i b1 _ e2
    rw [h1] at k1; cases k1
    obtain ⟨v, z1, z2⟩ := atI_rep k4 e3
    exact ⟨pp, vs, n, v, rfl, rfl, SqL.of k3, z1, kk v H0' H1' ρ' d st S' z2 q⟩
/-! slices of tuples and lists -/
def cutD (xs : List D) (lo hi : Option Int) : List D := (xs.drop (HT.sIx xs.length 0 lo)).take (HT.sIx xs.length xs.length hi - HT.sIx xs.length 0 lo)
theorem cut_rep {K : PySem.W.Frag} {H : Hp} {vs : List V} {ds : List D} {lo hi : Option Int} (r : Reps K H vs ds) : Reps K H (cutV vs lo hi) (cutD ds lo hi) := by
  unfold cutV cutD
  rw [r.length]
  exact Reps.take _ (Reps.drop _ r)
/-- a part of a slice -/
def GoO (g : G) (e : Option Expr) (ρ : Rho) (Q : Rho → Option Int → Prop) : Prop := match e with
  | none => Q ρ none
  | some e => GoV g e ρ fun ρ1 d => ∃ n, d = .int n ∧ Q ρ1 (some n)
def tXO (X : Cx) (e : Option Expr) : TO := match e with
  | none => tNoPart
  | some e => tPart (tX X e)
theorem pXO {X : Cx} {e : Option Expr} : PO X e (tXO X e) := match e with
  | none => po_none
  | some _ => po_some pX
theorem o_run {oe : Option Expr} {Qo : Rho → Option Int → Prop} (h : GoO g oe ρ Qo) {σ : L2.St} {H0 H1 : Hp} (S : Sat g.X.K H0 H1 σ ρ) (T : Tk g σ ρ H0 H1) {Qv : Option Int → Hp → Prop}
    (kk : ∀ n H0' H1' ρ', Step σ ρ H0 H1 σ ρ' H0' H1' → Sat g.X.K H0' H1' σ ρ' → Qo ρ' n → Qv n H1') : tXO g.X oe σ H1 Qv := by
  cases oe with
  | none => exact kk none H0 H1 ρ Step.refl S h
  | some e =>
    refine h σ H0 H1 S T _ fun v H0' H1' ρ' d st S' r ⟨n, e1, q⟩ => ?_
    subst e1
    exact ⟨n, r, kk (some n) H0' H1' ρ' st S' q⟩
theorem g_slT {lo hi : Option Expr} (h : GoV g a ρ fun ρ1 x => GoO g lo ρ1 fun ρ2 l => GoO g hi ρ2 fun ρ3 u => ∃ ds, x = .tup ds ∧ ¬ (HT.sIx ds.length 0 l = 0 ∧ HT.sIx ds.length ds.length u = ds.length) ∧ Q ρ3 (.tup (cutD ds l u))) : GoV g (.Subscript a (.Slice lo hi none p2) pos) ρ Q :=
  v_of (pe_slice sl_tup pX pXO pXO) fun σ H0 H1 S T Qv kk => h σ H0 H1 S T _ fun v H01 H11 ρ1 x s1 S1 r1 q1 => o_run q1 S1 (T.step s1) fun l H02 H12 ρ2 s2 S2 q2 => o_run q2 S2 ((T.step s1).step s2) fun u H03 H13 ρ3 s3 S3 q3 => by
    obtain ⟨ds, rfl, hw, q⟩ := q3
    have e := L2.Same.trans s2.kn s3.kn
    obtain ⟨pp, vs, rfl, hp, rr⟩ := r1
    refine ⟨pp, vs, rfl, Same.tup S3.sub (Same.tup e hp), by rw [rr.length]; exact hw, fun l' hl' => ?_⟩
    obtain ⟨S4, s4⟩ := sat_new (u := .tup (cutV vs l u)) S3 hl'
    exact kk _ _ _ ρ3 _ (((s1.trans s2).trans s3).trans s4) S4 (rep_tup (SqT.of upd_same) (cut_rep (rr.mono (L2.Same.trans (L2.Same.trans s2.kn s3.kn) s4.kn)))) q
theorem g_slL {lo hi : Option Expr} {Q : Rho → A → Prop} (h : GoV g a ρ fun ρ1 x => GoO g lo ρ1 fun ρ2 l => GoO g hi ρ2 fun ρ3 u => ∃ ds, x = .lst ds ∧ Q ρ3 (.own false (.lst (cutD ds l u)))) : GoE g (.Subscript a (.Slice lo hi none p2) pos) ρ Q :=
  e_of (pe_slice sl_list pX pXO pXO) fun σ H0 H1 S T Qv kk => h σ H0 H1 S T _ fun v H01 H11 ρ1 x s1 S1 r1 q1 => o_run q1 S1 (T.step s1) fun l H02 H12 ρ2 s2 S2 q2 => o_run q2 S2 ((T.step s1).step s2) fun u H03 H13 ρ3 s3 S3 q3 => by
    obtain ⟨ds, rfl, q⟩ := q3
    have e := L2.Same.trans s2.kn s3.kn
    obtain ⟨pp, vs, rfl, hp, rr⟩ := r1
    refine ⟨pp, vs, rfl, SqL.of (S3.sub _ _ (e _ _ hp)), fun l' hl' => ?_⟩
    obtain ⟨S4, s4, h0, hc⟩ := sat_mine (u := .lst (cutV vs l u)) S3 hl'
    exact kk _ _ _ ρ3 _ (((s1.trans s2).trans s3).trans s4) S4 (res_lst h0 (s1.dom _ (s2.dom _ (s3.dom _ hl'))) hc upd_same (cut_rep (rr.mono e))) q
/-! concatenations -/
theorem g_catT (h : GoV g a ρ fun ρ1 x => GoV g b ρ1 fun ρ2 y => ∃ ds es, x = .tup ds ∧ y = .tup es ∧ ds ≠ [] ∧ es ≠ [] ∧ ds.length + es.length ≤ 100000 ∧ Q ρ2 (.tup (ds ++ es))) : GoV g (.BinOp a .Add b pos) ρ Q :=
  v_of (pe_op op_catT pX pX) (wv_op (h.imp fun r x h' => h'.imp fun r' y ⟨ds, es, e1, e2, n1, n2, hl, q⟩ => by
    subst e1; subst e2
    intro σ H0 H1 S T v u h1 h2 Qv kk
    obtain ⟨p1, vs, rfl, hp1, rr1⟩ := h1
    obtain ⟨p2, us, rfl, hp2, rr2⟩ := h2
    refine ⟨p1, p2, vs, us, rfl, rfl, Same.tup S.sub hp1, Same.tup S.sub hp2, fun z => n1 (List.eq_nil_of_length_eq_zero (by rw [← rr1.length, z]; rfl)), by rw [rr1.length, rr2.length]; exact Nat.le_trans hl (by decide), fun z => (n2 (List.eq_nil_of_length_eq_zero (by rw [← rr2.length, z]; rfl))).elim, fun _ l hl' => ?_⟩
    obtain ⟨S4, s4⟩ := sat_new (u := .tup (vs ++ us)) S hl'
    exact kk _ _ _ r' _ s4 S4 (rep_tup (SqT.of upd_same) ((rr1.mono s4.kn).append (rr2.mono s4.kn))) q))
theorem g_catL {Q : Rho → A → Prop} (h : GoV g a ρ fun ρ1 x => GoV g b ρ1 fun ρ2 y => ∃ ds es, x = .lst ds ∧ y = .lst es ∧ ds.length + es.length ≤ 100000 ∧ Q ρ2 (.own false (.lst (ds ++ es)))) : GoE g (.BinOp a .Add b pos) ρ Q :=
  e_of (pe_op op_cat pX pX) (we_op (h.imp fun r x h' => h'.imp fun r' y ⟨ds, es, e1, e2, hl, q⟩ => by
    subst e1; subst e2
    intro σ H0 H1 S T v u h1 h2 Qv kk
    obtain ⟨p1, vs, rfl, hp1, rr1⟩ := h1
    obtain ⟨p2, us, rfl, hp2, rr2⟩ := h2
    refine ⟨p1, p2, vs, us, rfl, rfl, S.sub _ _ hp1, S.sub _ _ hp2, by rw [rr1.length, rr2.length]; exact Nat.le_trans hl (by decide), fun l hl' => ?_⟩
    obtain ⟨S4, s4, h0, hc⟩ := sat_mine (u := .lst (vs ++ us)) S hl'
    exact kk _ _ _ r' _ s4 S4 (res_lst h0 hl' hc upd_same (rr1.append rr2)) q))
/-! ### built-ins by their names -/
theorem g_callB {id : String} {r : List V → Hp → VK → Prop} (hc : CallR g.X (.builtin id) r) (s : Blt g.X x (.builtin id)) (h : GoA g (e :: es) ρ fun ρ1 xs => RC g r xs ρ1 Q)
    (he : starEach (e :: es) g.X.env = (false, eval e g.X.env) :: starEach es g.X.env := by rfl) (hpl : (backTo pos (starEach es g.X.env)).any (·.1) = false := by rfl) : GoV g (.Call (.Name x p) (e :: es) [] pos) ρ Q :=
  v_of (pe_callB hc s.hg s.hm s.hv pXA s.hn s.hd he hpl) (wv_cb h)
theorem e_callB {Q : Rho → A → Prop} {id : String} {r : List V → Hp → VK → Prop} (hc : CallR g.X (.builtin id) r) (s : Blt g.X x (.builtin id)) (h : GoA g (e :: es) ρ fun ρ1 xs => RCE g r xs ρ1 Q)
    (he : starEach (e :: es) g.X.env = (false, eval e g.X.env) :: starEach es g.X.env := by rfl) (hpl : (backTo pos (starEach es g.X.env)).any (·.1) = false := by rfl) : GoE g (.Call (.Name x p) (e :: es) [] pos) ρ Q :=
  e_of (pe_callB hc s.hg s.hm s.hv pXA s.hn s.hd he hpl) (we_cb h)
theorem g_callTy {T : String} {r : List V → Hp → VK → Prop} (hc : CallR g.X (.type T) r) (s : Blt g.X x (.type T)) (h : GoA g (e :: es) ρ fun ρ1 xs => RC g r xs ρ1 Q)
    (he : starEach (e :: es) g.X.env = (false, eval e g.X.env) :: starEach es g.X.env := by rfl) (hpl : (backTo pos (starEach es g.X.env)).any (·.1) = false := by rfl) : GoV g (.Call (.Name x p) (e :: es) [] pos) ρ Q :=
  v_of (pe_callTy hc s.hg s.hm s.hv pXA s.hn s.hd he hpl) (wv_cb h)
theorem e_callTy {Q : Rho → A → Prop} {T : String} {r : List V → Hp → VK → Prop} (hc : CallR g.X (.type T) r) (s : Blt g.X x (.type T)) (h : GoA g (e :: es) ρ fun ρ1 xs => RCE g r xs ρ1 Q)
    (he : starEach (e :: es) g.X.env = (false, eval e g.X.env) :: starEach es g.X.env := by rfl) (hpl : (backTo pos (starEach es g.X.env)).any (·.1) = false := by rfl) : GoE g (.Call (.Name x p) (e :: es) [] pos) ρ Q :=
  e_of (pe_callTy hc s.hg s.hm s.hv pXA s.hn s.hd he hpl) (we_cb h)
/-- abs(n) -/
theorem g_abs (s : Blt g.X x (.builtin "abs")) (h : GoV g e ρ fun ρ1 d => ∃ n, d = .int n ∧ Q ρ1 (.int (if n < 0 then -n else n)))
    (he : starEach (e :: []) g.X.env = (false, eval e g.X.env) :: starEach [] g.X.env := by rfl) (hpl : (backTo pos (starEach [] g.X.env)).any (·.1) = false := by rfl) : GoV g (.Call (.Name x p) [e] [] pos) ρ Q :=
  g_callB call_abs s (a_cons (h.imp fun r d ⟨n, e1, q⟩ => a_nil (by
    subst e1
    intro σ H0 H1 S T vs hv Qv kk
    obtain ⟨v, rr, e2, r1, r2⟩ := hv
    subst e2
    cases (show v = _ from r1)
    cases (show rr = [] from r2)
    exact ⟨n, rfl, kk _ _ _ _ _ Step.refl S rep_int q⟩)) he) he hpl
/-- max(m, n), min(m, n) -/
theorem g_max2 {e2 : Expr} (hcalm : g.X.calm = true) (s : Blt g.X x (.builtin "max")) (h : GoV g e ρ fun ρ1 d => ∃ m, d = .int m ∧ GoV g e2 ρ1 fun ρ2 d' => ∃ n, d' = .int n ∧ Q ρ2 (.int (if n > m then n else m)))
    (he : starEach (e :: [e2]) g.X.env = (false, eval e g.X.env) :: starEach [e2] g.X.env := by rfl) (he2 : starEach (e2 :: []) g.X.env = (false, eval e2 g.X.env) :: starEach [] g.X.env := by rfl) (hpl : (backTo pos (starEach [e2] g.X.env)).any (·.1) = false := by rfl) : GoV g (.Call (.Name x p) [e, e2] [] pos) ρ Q :=
  g_callB (call_max2 hcalm) s (a_cons (h.imp fun r d ⟨m, e1, q⟩ => a_cons (q.imp fun r' d' ⟨n, e3, q'⟩ => a_nil (by
    subst e1; subst e3
    intro σ H0 H1 S T vs hv Qv kk
    obtain ⟨v, rr, e2, r1, v', rr', e4, r2, r3⟩ := hv
    subst e2; subst e4
    cases (show v = _ from r1)
    cases (show v' = _ from r2)
    cases (show rr' = [] from r3)
    exact ⟨m, n, rfl, kk _ _ _ _ _ Step.refl S rep_int q'⟩)) he2) he) he hpl
theorem g_min2 {e2 : Expr} (hcalm : g.X.calm = true) (s : Blt g.X x (.builtin "min")) (h : GoV g e ρ fun ρ1 d => ∃ m, d = .int m ∧ GoV g e2 ρ1 fun ρ2 d' => ∃ n, d' = .int n ∧ Q ρ2 (.int (if n < m then n else m)))
    (he : starEach (e :: [e2]) g.X.env = (false, eval e g.X.env) :: starEach [e2] g.X.env := by rfl) (he2 : starEach (e2 :: []) g.X.env = (false, eval e2 g.X.env) :: starEach [] g.X.env := by rfl) (hpl : (backTo pos (starEach [e2] g.X.env)).any (·.1) = false := by rfl) : GoV g (.Call (.Name x p) [e, e2] [] pos) ρ Q :=
  g_callB (call_min2 hcalm) s (a_cons (h.imp fun r d ⟨m, e1, q⟩ => a_cons (q.imp fun r' d' ⟨n, e3, q'⟩ => a_nil (by
    subst e1; subst e3
    intro σ H0 H1 S T vs hv Qv kk
    obtain ⟨v, rr, e2, r1, v', rr', e4, r2, r3⟩ := hv
    subst e2; subst e4
    cases (show v = _ from r1)
    cases (show v' = _ from r2)
    cases (show rr' = [] from r3)
    exact ⟨m, n, rfl, kk _ _ _ _ _ Step.refl S rep_int q'⟩)) he2) he) he hpl
/-- len of a text, a list, a tuple -/
def lenD : D → Option Nat
  | .str s => if s.length ≤ 100000 then some s.length else none
  | .tup ds => some ds.length
  | .lst ds => some ds.length
  | .rdl ds => some ds.length
  | _ => none
theorem g_len (s : Blt g.X x (.builtin "len")) (h : GoV g e ρ fun ρ1 d => ∃ n, lenD d = some n ∧ Q ρ1 (.int (n : Nat)))
    (he : starEach (e :: []) g.X.env = (false, eval e g.X.env) :: starEach [] g.X.env := by rfl) (hpl : (backTo pos (starEach [] g.X.env)).any (·.1) = false := by rfl) : GoV g (.Call (.Name x p) [e] [] pos) ρ Q :=
  g_callB call_len s (a_cons (h.imp fun r d ⟨n, e1, q⟩ => a_nil (by
    intro σ H0 H1 S T vs hv Qv kk
    obtain ⟨v, rr, e2, r1, r2⟩ := hv
    subst e2
    cases (show rr = [] from r2)
    refine ⟨v, n, rfl, ?_, kk _ _ _ _ _ Step.refl S rep_int q⟩
    cases d with
    | str y =>
      cases (show v = _ from r1)
      by_cases hl : y.length ≤ 100000
      · simp only [lenD, if_pos hl, Option.some.injEq] at e1
        exact ⟨Nat.le_trans hl (by decide), e1.symm⟩
      · simp only [lenD, if_neg hl] at e1; cases e1
    | tup ds =>
      cases e1
      obtain ⟨pp, vs, rfl, hp, r4⟩ := r1
      exact .inr ⟨vs, Same.tup S.sub hp, r4.length.symm⟩
    | lst ds =>
      cases e1
      obtain ⟨pp, vs, rfl, hp, r4⟩ := r1
      exact .inl ⟨vs, SqL.of (S.sub _ _ hp), r4.length.symm⟩
    | rdl ds =>
      cases e1
      obtain ⟨pp, vs, rfl, hp, r4⟩ := r1
      exact .inl ⟨vs, L2.Same.seq S.sub hp, r4.length.symm⟩
    | _ => cases e1)) he) he hpl
/-- isinstance(x, T) -/
def tyD : D → Option String
  | .non => some "NoneType"
  | .bl _ => some "bool"
  | .int _ => some "int"
  | .str _ => some "str"
  | .tup _ => some "tuple"
  | .lst _ => some "list"
  | _ => none
theorem tyD_ok {K : PySem.W.Frag} {H : Hp} {v : V} {d : D} {T : String} (r : Rep K H v d) (h : tyD d = some T) : TyX K H v (.type T) := by
  cases d with
  | non => cases h; cases (show v = _ from r); exact .base .non
  | bl b => cases h; cases (show v = _ from r); exact .base (.bl b)
  | int b => cases h; cases (show v = _ from r); exact .base (.int b)
  | str b => cases h; cases (show v = _ from r); exact .base (.str b)
  | tup ds =>
    cases h
    obtain ⟨p, vs, rfl, hp, _⟩ := r
    rcases hp with (hp | ⟨o, hp⟩) | ⟨o, its, n, h1, h2, _⟩
    · exact .base (.tup hp)
    · exact .fTuple hp
    · exact .kTuple h1 h2
  | lst ds =>
    cases h
    obtain ⟨p, vs, rfl, hp, _⟩ := r
    exact .base (.lst hp)
  | _ => cases h
theorem g_isi {e2 : Expr} (s : Blt g.X x (.builtin "isinstance")) {T C : String} (h : GoV g e ρ fun ρ1 d => GoV g e2 ρ1 fun ρ2 d' => ∃ T C b, tyD d = some T ∧ d' = .ty C ∧ kitB T C = some b ∧ Q ρ2 (.bl b))
    (he : starEach (e :: [e2]) g.X.env = (false, eval e g.X.env) :: starEach [e2] g.X.env := by rfl) (he2 : starEach (e2 :: []) g.X.env = (false, eval e2 g.X.env) :: starEach [] g.X.env := by rfl) (hpl : (backTo pos (starEach [e2] g.X.env)).any (·.1) = false := by rfl) : GoV g (.Call (.Name x p) [e, e2] [] pos) ρ Q :=
  g_callB call_isi s (a_cons (h.imp fun r d q => a_cons (q.imp fun r' d' ⟨T, C, b, e1, e3, e4, q'⟩ => a_nil (by
    subst e3
    intro σ H0 H1 S TT vs hv Qv kk
    obtain ⟨v, rr, e2, r1, v', rr', e5, r2, r3⟩ := hv
    subst e2; subst e5
    cases (show v' = _ from r2)
    cases (show rr' = [] from r3)
    exact ⟨v, .ty C, .type T, .type C, b, rfl, .ty C, tyD_ok (r1.mono S.sub) e1, kit_ty e4, kk _ _ _ _ _ Step.refl S rep_bl q'⟩)) he2) he) he hpl
/-- a built-in class as a value -/
theorem g_bltn {T : String} (s : Blt g.X x (.type T)) (q : Q ρ (.ty T)) : GoV g (.Name x pos) ρ Q := v_of (pe_bltn (v := .ty T) s.hg s.hm s.hv rfl s.hn s.hd) (wv_c (d := .ty T) (fun _ => (rfl : V.ty T = V.ty T)) q)
/-! ### own lists, changed -/
/-- the method's shape -/
structure Mth (X : Cx) (o : Expr) (m : Str) (apos : Pos) (es : List Expr) (pos : Pos) : Prop where
  base : attributeBase o m X.env (eval o X.env) = eval o X.env
  few : ((backTo pos (starEach es X.env)).all (fun x => !x.1) && (backToKw pos (keywordEach [] X.env)).all (fun x => x.1.isSome)
      && decide (es.length + ([] : List Keyword).length + (if ([] : List Keyword).isEmpty then 0 else 1) < 30)) = true
  line : (apos.endLine == pos.line) = true
theorem g_append (s : SlotV g.X x i) {bb : Bool} {ds0 : List D} (ho : ρ[i]? = some (some (.own bb (.lst ds0)))) (h : GoV g e ρ fun ρ1 d => ∃ b1 ds, ρ1[i]? = some (some (.own b1 (.lst ds))) ∧ ds.length < 100000 ∧ Q (ρ1.set i (some (.own b1 (.lst (ds ++ [d]))))) .non)
    (m : Mth g.X (.Name x p) "append" apos [e] pos := by exact ⟨rfl, rfl, rfl⟩) (hs : starEach (e :: []) g.X.env = (false, eval e g.X.env) :: starEach [] g.X.env := by rfl) (hplain : (backTo pos (starEach [] g.X.env)).any (·.1) = false := by rfl) : GoV g (.Call (.Attribute (.Name x p) "append" apos) [e] [] pos) ρ Q :=
  v_of (pe_bm PySem.F.plainAttrs_list PySem.F.slot_list_append PySem.F.type_list_append mt_append (pe_var s.hN s.hv s.hd s.hc) (pa_cons pX pa_nil hs) m.base m.few m.line hs hplain) fun σ H0 H1 S T Qv kk => by
    obtain ⟨pp, h1, h2, vs0, k01, k02⟩ := S.own i bb _ ho
    refine ⟨.ref pp, h1, .inl ⟨rfl, vs0, SqL.of k01⟩, h σ H0 H1 S T _ fun v H0' H1' ρ' d st S' r ⟨b1, ds, e2, hl, q⟩ => ?_⟩
    · obtain ⟨p2, k1, k2, vs, k3, k4⟩ := S'.own i b1 _ e2
      rw [h1] at k1; cases k1
      obtain ⟨S2, s2⟩ := sat_write (u := .lst (vs ++ [v])) (o' := .lst (ds ++ [d])) S' e2 h1 ⟨_, upd_same, k4.snoc r⟩
      exact ⟨pp, vs, v, rfl, rfl, k3, by rw [k4.length]; exact Nat.lt_of_lt_of_le hl (by decide), kk _ _ _ _ _ (st.trans s2) S2 rep_nn q⟩
theorem g_pop (s : SlotV g.X x i) {bb : Bool} {ds : List D} {d : D} (ho : ρ[i]? = some (some (.own bb (.lst ds)))) (hl : ds[ds.length - 1]? = some d) (q : Q (ρ.set i (some (.own bb (.lst ds.dropLast)))) d)
    (m : Mth g.X (.Name x p) "pop" apos [] pos := by exact ⟨rfl, rfl, rfl⟩) : GoV g (.Call (.Attribute (.Name x p) "pop" apos) [] [] pos) ρ Q :=
  v_of (pe_bm0 PySem.F.plainAttrs_list PySem.F.slot_list_pop PySem.F.type_list_pop mt_pop (pe_var s.hN s.hv s.hd s.hc) m.base m.line) fun σ H0 H1 S T Qv kk => by
    obtain ⟨pp, h1, h2, vs, k1, k2⟩ := S.own i bb _ ho
    obtain ⟨v, z1, z2⟩ := k2.get hl
    obtain ⟨S2, s2⟩ := sat_write (u := .lst vs.dropLast) (o' := .lst ds.dropLast) S ho h1 ⟨_, upd_same, k2.dropLast⟩
    exact ⟨.ref pp, h1, .inl ⟨rfl, vs, SqL.of k1⟩, pp, vs, v, rfl, rfl, k1, by rw [k2.length]; exact z1, kk _ _ _ _ _ s2 S2 z2 q⟩
theorem g_popAt (s : SlotV g.X x i) {bb : Bool} {ds0 : List D} (ho : ρ[i]? = some (some (.own bb (.lst ds0)))) (h : GoV g e ρ fun ρ1 y => ∃ n b1 ds d, y = .int n ∧ ρ1[i]? = some (some (.own b1 (.lst ds))) ∧ 0 ≤ n ∧ n < 2 ^ 63 ∧ ds[n.toNat]? = some d ∧ Q (ρ1.set i (some (.own b1 (.lst (ds.eraseIdx n.toNat))))) d)
    (m : Mth g.X (.Name x p) "pop" apos [e] pos := by exact ⟨rfl, rfl, rfl⟩) (hs : starEach (e :: []) g.X.env = (false, eval e g.X.env) :: starEach [] g.X.env := by rfl) (hplain : (backTo pos (starEach [] g.X.env)).any (·.1) = false := by rfl) : GoV g (.Call (.Attribute (.Name x p) "pop" apos) [e] [] pos) ρ Q :=
  v_of (pe_bm PySem.F.plainAttrs_list PySem.F.slot_list_pop PySem.F.type_list_pop mt_popAt (pe_var s.hN s.hv s.hd s.hc) (pa_cons pX pa_nil hs) m.base m.few m.line hs hplain) fun σ H0 H1 S T Qv kk => by
    obtain ⟨pp, h1, h2, vs0, k01, k02⟩ := S.own i bb _ ho
    refine ⟨.ref pp, h1, .inl ⟨rfl, vs0, SqL.of k01⟩, h σ H0 H1 S T _ fun v H0' H1' ρ' y st S' r ⟨n, b1, ds, d, e1, e2, n0, n1, e3, q⟩ => ?_⟩
    subst e1
    cases (show v = _ from r)
    obtain ⟨p2, k1, k2, vs, k3, k4⟩ := S'.own i b1 _ e2
    rw [h1] at k1; cases k1
    obtain ⟨v, z1, z2⟩ := k4.get e3
    obtain ⟨S2, s2⟩ := sat_write (u := .lst (vs.eraseIdx n.toNat)) (o' := .lst (ds.eraseIdx n.toNat)) S' e2 h1 ⟨_, upd_same, k4.eraseIdx _⟩
    have hlt : n.toNat < vs.length := (List.getElem?_eq_some_iff.mp z1).1
    have sx : seqIndex? n vs.length = some n.toNat := (ixN_seq (by unfold ixN; rw [if_pos n0, if_pos (by omega)])).1
    exact ⟨pp, vs, n, n.toNat, v, rfl, rfl, k3, by omega, n1, sx, z1, kk _ _ _ _ _ (st.trans s2) S2 z2 q⟩
/-- own.extend(e): what comes is a list -/
theorem g_extend (s : SlotV g.X x i) {bb : Bool} {ds0 : List D} (ho : ρ[i]? = some (some (.own bb (.lst ds0)))) (h : GoV g e ρ fun ρ1 y => ∃ b1 ds es, y = .lst es ∧ ρ1[i]? = some (some (.own b1 (.lst ds))) ∧ ds.length + es.length ≤ 100000 ∧ Q (ρ1.set i (some (.own b1 (.lst (ds ++ es))))) .non)
    (m : Mth g.X (.Name x p) "extend" apos [e] pos := by exact ⟨rfl, rfl, rfl⟩) (hs : starEach (e :: []) g.X.env = (false, eval e g.X.env) :: starEach [] g.X.env := by rfl) (hplain : (backTo pos (starEach [] g.X.env)).any (·.1) = false := by rfl) : GoV g (.Call (.Attribute (.Name x p) "extend" apos) [e] [] pos) ρ Q :=
  v_of (pe_bm PySem.F.plainAttrs_list PySem.F.slot_list_extend PySem.F.type_list_extend mt_extend (pe_var s.hN s.hv s.hd s.hc) (pa_cons pX pa_nil hs) m.base m.few m.line hs hplain) fun σ H0 H1 S T Qv kk => by
    obtain ⟨pp, h1, h2, vs0, k01, k02⟩ := S.own i bb _ ho
    refine ⟨.ref pp, h1, .inl ⟨rfl, vs0, SqL.of k01⟩, h σ H0 H1 S T _ fun v H0' H1' ρ' y st S' r ⟨b1, ds, es, e1, e2, hl, q⟩ => ?_⟩
    subst e1
    obtain ⟨qq, us, rfl, hq, rr⟩ := r
    obtain ⟨p2, k1, k2, vs, k3, k4⟩ := S'.own i b1 _ e2
    rw [h1] at k1; cases k1
    obtain ⟨S2, s2⟩ := sat_write (u := .lst (vs ++ us)) (o' := .lst (ds ++ es)) S' e2 h1 ⟨_, upd_same, k4.append rr⟩
    exact ⟨pp, qq, vs, us, rfl, rfl, k3, S'.sub _ _ hq, by rw [k4.length, rr.length]; exact Nat.le_trans hl (by decide), kk _ _ _ _ _ (st.trans s2) S2 rep_nn q⟩
end
section
variable {g : G} {ρ : Rho} {a b c e : Expr} {pos p p2 : Pos} {i : Nat} {x : Str} {nx : Rho → Prop} {rt : Rho → A → Prop} {bk ct : Rho → Prop}
/-- own[i] = e -/
theorem s_setIx {tpos : Pos} (s : SlotV g.X x i) {bb : Bool} {o : O} (ho : ρ[i]? = some (some (.own bb o)))
    (h : GoV g e ρ fun ρ1 d => GoV g b ρ1 fun ρ2 y => ∃ n b1 ds k, y = .int n ∧ ρ2[i]? = some (some (.own b1 (.lst ds))) ∧ ixN ds.length n = some k ∧ nx (ρ2.set i (some (.own b1 (.lst (ds.set k d))))))
    (hg : PG g.X (.Subscript (.Name x p) b tpos) (gSub (tVar i) (tX g.X b) rSetL) := by exact pg_sub (pe_var (SlotV.hN (by assumption)) (SlotV.hv (by assumption)) (SlotV.hd (by assumption)) (SlotV.hc (by assumption))) pX set_list)
    (hs : swapsWithSole [.Subscript (.Name x p) b tpos] e pos.line g.X.env = pure false := by rfl) (hw : swappedStores [.Subscript (.Name x p) b tpos] e g.X.env = pure none := by rfl) (h1 : (assignEach [.Subscript (.Name x p) b tpos] g.X.env).map (fun x => x.2) = [assign (.Subscript (.Name x p) b tpos) g.X.env] := by rfl) :
    GoS g (.Assign [.Subscript (.Name x p) b tpos] e pos) ρ ⟨nx, rt, bk, ct⟩ :=
  s_of (ps_asg pX hg hs hw h1) fun σ H0 H1 S T De w => h σ H0 H1 S T _ fun v H0' H1' ρ' d s1 S1 r q => by
    obtain ⟨pp, k1, k2, k3⟩ := S.own i bb o ho
    refine ⟨.ref pp, k1, q σ H0' H1' S1 (T.step s1) _ fun u H0'' H1'' ρ'' y s2 S2 r2 ⟨n, b1, ds, k, e1, e2, e3, qq⟩ => ?_⟩
    subst e1
    cases (show u = _ from r2)
    obtain ⟨p3, j1, j2, vs, j3, j4⟩ := S2.own i b1 _ e2
    rw [k1] at j1; cases j1
    obtain ⟨S3, s3⟩ := sat_write (u := .lst (vs.set k v)) (o' := .lst (ds.set k d)) S2 e2 k1 ⟨_, upd_same, Reps.set k j4 (r.mono s2.kn)⟩
    exact ⟨pp, vs, n, k, rfl, rfl, j3, by rw [j4.length]; exact e3, w.nx _ _ _ _ ((s1.trans s2).trans s3) S3 qq⟩
end
end FW

set_option Elab.async false
set_option linter.all false
set_option maxRecDepth 100000
set_option maxHeartbeats 4000000
/-! fractions as Rat -/
namespace FW
open PySem L2

/-- the tuple (top, bottom) of a fraction -/
def fr (q : Rat) : D := .tup [.int q.num, .int (q.den : Int)]
/-- both parts below 2^n -/
def Sz (n : Nat) (q : Rat) : Prop := q.num.natAbs < 2 ^ n ∧ q.den < 2 ^ n
theorem sign_or (b : Int) (h : b ≠ 0) : b.sign = 1 ∧ 0 < b ∨ b.sign = -1 ∧ b < 0 := by
  rcases Int.lt_trichotomy b 0 with h1 | h1 | h1
  · exact .inr ⟨Int.sign_eq_neg_one_of_neg h1, h1⟩
  · exact absurd h1 h
  · exact .inl ⟨Int.sign_eq_one_of_pos h1, h1⟩
/-- what fraction(top, bottom) reckons -/
theorem fdiv_num {t b : Int} (hb : b ≠ 0) : t.fdiv ((Nat.gcd t.natAbs b.natAbs : Int) * b.sign) = (Rat.divInt t b).num := by
  rw [Rat.num_divInt, Int.gcd_comm]
  show _ = b.sign * t / ((Int.gcd t b : Nat) : Int)
  have hg : (Int.gcd t b : Int) ∣ t := Int.gcd_dvd_left ..
  have hp : 0 < (Int.gcd t b : Int) := by
    have := Int.gcd_pos_of_ne_zero_right t hb
    omega
  have e : ((Nat.gcd t.natAbs b.natAbs : Nat) : Int) = (Int.gcd t b : Int) := rfl
  rw [e]
  obtain ⟨k, hk⟩ := hg
  generalize (Int.gcd t b : Int) = G at *
  subst hk
  have hG : G ≠ 0 := by omega
  rcases sign_or b hb with ⟨s, _⟩ | ⟨s, _⟩ <;> rw [s]
  · rw [Int.mul_one, Int.one_mul, Int.mul_fdiv_cancel_left _ hG, Int.mul_ediv_cancel_left _ hG]
  · have e1 : G * -1 = -G := by omega
    have e2 : -1 * (G * k) = G * (-k) := by rw [Int.mul_neg, Int.neg_mul, Int.one_mul]
    have e3 : G * k = (-G) * (-k) := by rw [Int.neg_mul_neg]
    rw [e1, e2, Int.mul_ediv_cancel_left _ hG, e3, Int.mul_fdiv_cancel_left _ (by omega)]
theorem fdiv_den {t b : Int} (hb : b ≠ 0) : b.fdiv ((Nat.gcd t.natAbs b.natAbs : Int) * b.sign) = ((Rat.divInt t b).den : Int) := by
  rw [Rat.den_divInt, if_neg hb, Int.gcd_comm]
  have hg : (Int.gcd t b : Int) ∣ b := Int.gcd_dvd_right ..
  have hp : 0 < (Int.gcd t b : Int) := by
    have := Int.gcd_pos_of_ne_zero_right t hb
    omega
  have e : ((Nat.gcd t.natAbs b.natAbs : Nat) : Int) = (Int.gcd t b : Int) := rfl
  rw [e, Int.natCast_ediv]
  obtain ⟨k, hk⟩ := hg
  generalize hGG : Int.gcd t b = g at *
  have hG : (g : Int) ≠ 0 := by omega
  rcases sign_or b hb with ⟨s, hs⟩ | ⟨s, hs⟩ <;> rw [s]
  · have e0 : ((b.natAbs : Nat) : Int) = b := by omega
    rw [e0, hk, Int.mul_one, Int.mul_fdiv_cancel_left _ hG, Int.mul_ediv_cancel_left _ hG]
  · have e0 : ((b.natAbs : Nat) : Int) = -b := by omega
    have e1 : (g : Int) * -1 = -g := by omega
    have e2 : -((g : Int) * k) = g * (-k) := by rw [Int.mul_neg]
    have e3 : (g : Int) * k = (-g) * (-k) := by rw [Int.neg_mul_neg]
    rw [e0, hk, e1, e2, Int.mul_ediv_cancel_left _ hG, e3, Int.mul_fdiv_cancel_left _ (by omega)]
theorem gcd_small {t b : Int} {n : Nat} (hb : b ≠ 0) (h : b.natAbs < 2 ^ n) : Nat.gcd t.natAbs b.natAbs < 2 ^ n ∧ 0 < Nat.gcd t.natAbs b.natAbs := by
  have hb' : 0 < b.natAbs := by omega
  exact ⟨Nat.lt_of_le_of_lt (Nat.le_of_dvd hb' (Nat.gcd_dvd_right ..)) h, Nat.gcd_pos_of_pos_right _ hb'⟩
theorem sz_divInt {t b : Int} {n : Nat} (hb : b ≠ 0) (ht : t.natAbs < 2 ^ n) (h : b.natAbs < 2 ^ n) : Sz n (Rat.divInt t b) := by
  constructor
  · rw [Rat.num_divInt]
    refine Nat.lt_of_le_of_lt ?_ ht
    rw [Int.natAbs_ediv_of_dvd (Int.dvd_trans (Int.gcd_dvd_right ..) (Int.dvd_mul_left ..))]
    refine Nat.le_trans (Nat.div_le_self ..) ?_
    rw [Int.natAbs_mul]
    have := Int.natAbs_sign b
    rcases sign_or b hb with ⟨s, _⟩ | ⟨s, _⟩ <;> rw [s] <;> simp
  · rw [Rat.den_divInt, if_neg hb]
    exact Nat.lt_of_le_of_lt (Nat.div_le_self ..) h
theorem plus_eq (p q : Rat) : Rat.divInt (p.num * (q.den : Int) + q.num * (p.den : Int)) ((p.den : Int) * (q.den : Int)) = p + q := by
  rw [← Rat.divInt_add_divInt _ _ (by have := p.den_nz; omega) (by have := q.den_nz; omega), Rat.num_divInt_den, Rat.num_divInt_den]
theorem minus_eq (p q : Rat) : Rat.divInt (p.num * (q.den : Int) - q.num * (p.den : Int)) ((p.den : Int) * (q.den : Int)) = p - q := by
  rw [← Rat.divInt_sub_divInt _ _ (by have := p.den_nz; omega) (by have := q.den_nz; omega), Rat.num_divInt_den, Rat.num_divInt_den]
theorem times_eq (p q : Rat) : Rat.divInt (p.num * q.num) ((p.den : Int) * (q.den : Int)) = p * q := by
  rw [← Rat.divInt_mul_divInt, Rat.num_divInt_den, Rat.num_divInt_den]
theorem shared_eq (p q : Rat) : Rat.divInt (p.num * (q.den : Int)) ((p.den : Int) * q.num) = p / q := by
  rw [Rat.div_def, ← Rat.divInt_mul_divInt, Rat.num_divInt_den]
  congr 1
  rw [← Rat.inv_divInt, Rat.num_divInt_den]
end FW

set_option Elab.async false
set_option linter.all false
set_option maxRecDepth 100000
set_option maxHeartbeats 4000000
namespace FW
open PySem PySem.Spec PyProof.Rows L2

/-! ### what is walked -/
/-- the iterator gives the items, whatever is made meanwhile -/
structure JOk (K : PySem.W.Frag) (J : It) (ds : List D) (H0 : Hp) : Prop where
  go : ∀ i H, Same H0 H → i < ds.length → J.go i H
  yld : ∀ i H x H', Same H0 H → J.yld i H x H' → H' = H ∧ ∀ d, ds[i]? = some d → ∀ K0, Same H0 K0 → Rep K K0 x d
  stop : ∀ i H, Same H0 H → ds.length ≤ i → J.stop i H
theorem JOk.up {K : PySem.W.Frag} {J : It} {ds : List D} {H0 H0' : Hp} (j : JOk K J ds H0) (e : Same H0 H0') : JOk K J ds H0' :=
  ⟨fun i H s => j.go i H (L2.Same.trans e s), fun i H x H' s y => ⟨(j.yld i H x H' (L2.Same.trans e s) y).1, fun d hd K0 s' => (j.yld i H x H' (L2.Same.trans e s) y).2 d hd K0 (L2.Same.trans e s')⟩, fun i H s => j.stop i H (L2.Same.trans e s)⟩
def WI (g : G) (wi : TI) (ρ : Rho) (Q : Rho → List D → Prop) : Prop := ∀ σ H0 H1, Sat g.X.K H0 H1 σ ρ → Tk g σ ρ H0 H1 → ∀ R : It → Hp → Prop,
  (∀ J H0' H1' ρ' ds, Step σ ρ H0 H1 σ ρ' H0' H1' → Sat g.X.K H0' H1' σ ρ' → JOk g.X.K J ds H0' → Q ρ' ds → R J H1') → wi σ H1 R
def GoI (g : G) (tg iter : Expr) (ρ : Rho) (Q : Rho → List D → Prop) : Prop := ∃ wi, PI g.X tg iter wi ∧ WI g wi ρ Q
section
variable {g : G} {ρ : Rho} {a b e iter tg : Expr} {p p2 : Pos} {Q : Rho → List D → Prop}
theorem jok_list {K : PySem.W.Frag} {p : Addr} {vs : List V} {ds : List D} {H0 : Hp} (h : SqL K H0 p vs) (r : Reps K H0 vs ds) (inj : ∀ H ys, Same H0 H → SqL K H p ys → ys = vs) : JOk K (Itl K p) ds H0 := by
  refine ⟨fun i H s hi => ?_, fun i H x H' s ⟨e, y⟩ => ⟨e, fun d hd K0 s' => ?_⟩, fun i H s hi => ⟨vs, L2.Same.seq s h, by rw [r.length]; exact hi⟩⟩
  · rw [← r.length] at hi
    exact ⟨vs, vs[i], L2.Same.seq s h, List.getElem?_eq_getElem hi⟩
  · have hx := y vs (L2.Same.seq s h)
    obtain ⟨d', h1, h2⟩ := r.getV hx
    rw [hd] at h1; cases h1
    exact h2.mono s'
theorem i_list (h : GoV g iter ρ fun ρ1 d => ∃ ds, d = .lst ds ∧ Q ρ1 ds) : GoI g tg iter ρ Q := ⟨_, pi_list pX, fun σ H0 H1 S T R k => h σ H0 H1 S T _ fun v H0' H1' ρ' d st S' r ⟨ds, e, q⟩ => by
  subst e
  obtain ⟨p, vs, rfl, hp, rr⟩ := r
  refine ⟨p, rfl, ⟨vs, SqL.of (S'.sub _ _ hp)⟩, k _ H0' H1' ρ' ds st S' ⟨fun i H s hi => ?_, fun i H x H' s ⟨e, y⟩ => ⟨e, fun d hd K0 s' => ?_⟩, fun i H s hi => ⟨vs, SqL.of (s _ _ hp), by rw [rr.length]; exact hi⟩⟩ q⟩
  · rw [← rr.length] at hi
    exact ⟨vs, vs[i], SqL.of (s _ _ hp), List.getElem?_eq_getElem hi⟩
  · have hx := y vs (SqL.of (s _ _ hp))
    obtain ⟨d', h1, h2⟩ := rr.getV hx
    rw [hd] at h1; cases h1
    exact h2.mono s'⟩
theorem i_tup (h : GoV g iter ρ fun ρ1 d => ∃ ds, d = .tup ds ∧ Q ρ1 ds) : GoI g tg iter ρ Q := ⟨_, pi_tup pX, fun σ H0 H1 S T R k => h σ H0 H1 S T _ fun v H0' H1' ρ' d st S' r ⟨ds, e, q⟩ => by
  subst e
  obtain ⟨p, vs, rfl, hp, rr⟩ := r
  refine ⟨p, rfl, ⟨vs, Same.tup S'.sub hp⟩, k _ H0' H1' ρ' ds st S' ⟨fun i H s hi => ?_, fun i H x H' s ⟨e, y⟩ => ⟨e, fun d hd K0 s' => ?_⟩, fun i H s hi => ⟨vs, Same.tup s hp, by rw [rr.length]; exact hi⟩⟩ q⟩
  · rw [← rr.length] at hi
    exact ⟨vs, vs[i], Same.tup s hp, List.getElem?_eq_getElem hi⟩
  · have hx := y vs (Same.tup s hp)
    obtain ⟨d', h1, h2⟩ := rr.getV hx
    rw [hd] at h1; cases h1
    exact h2.mono s'⟩
/-- the signs of a text -/
def signs (s : Str) : List D := s.cps.toList.map fun c => .str ⟨#[c]⟩
theorem i_str (h : GoV g iter ρ fun ρ1 d => ∃ s, d = .str s ∧ Q ρ1 (signs s)) : GoI g tg iter ρ Q := ⟨_, pi_str pX, fun σ H0 H1 S T R k => h σ H0 H1 S T _ fun v H0' H1' ρ' d st S' r ⟨s, e, q⟩ => by
  subst e
  cases (show v = _ from r)
  refine ⟨s, rfl, k _ H0' H1' ρ' (signs s) st S' ⟨fun i H _ hi => ?_, fun i H x H' _ ⟨e, c, hc, hx⟩ => ⟨e, fun d hd K0 _ => ?_⟩, fun i H _ hi => ?_⟩ q⟩
  · show i < s.cps.size
    simpa [signs] using hi
  · subst hx
    unfold signs at hd
    rw [List.getElem?_map] at hd
    have : s.cps.toList[i]? = some c := by simpa using hc
    rw [this] at hd
    cases hd
    exact rep_str
  · show s.cps.size ≤ i
    simpa [signs] using hi⟩
theorem jok_rng {K : PySem.W.Frag} {lo : Int} {n : Nat} {H0 : Hp} : JOk K (Itr lo n) (rng lo n) H0 :=
  ⟨fun i H _ hi => by rw [rng_len] at hi; exact hi, fun i H x H' _ ⟨e, hx⟩ => ⟨e, fun d hd K0 _ => by
    have hi : i < n := by have := (List.getElem?_eq_some_iff.mp hd).1; rw [rng_len] at this; exact this
    rw [rng_get hi] at hd
    cases hd
    subst hx
    exact rep_int⟩, fun i H _ hi => by rw [rng_len] at hi; exact hi⟩
theorem i_rng1 (hr : Blt g.X "range" (.type "range")) (h : GoV g a ρ fun ρ1 d => ∃ n : Int, d = .int n ∧ (n < 2 ^ 62 ∧ -(2 ^ 62) ≤ n) ∧ Q ρ1 (rng 0 n.toNat))
    (h1 : starEach [a] g.X.env = [(false, eval a g.X.env)] := by rfl) : GoI g tg (.Call (.Name "range" p) [a] [] p2) ρ Q :=
  ⟨_, pi_range1 hr.hg hr.hm pXA h1, fun σ H0 H1 S T R k => (a_cons (Q := fun r xs => ∃ n : Int, xs = [.int n] ∧ (n < 2 ^ 62 ∧ -(2 ^ 62) ≤ n) ∧ Q r (rng 0 n.toNat)) (h.imp fun r d ⟨n, e, q1, q3⟩ => a_nil ⟨n, by rw [e], q1, q3⟩) h1) σ H0 H1 S T _ fun vs H0' H1' ρ' ds s1 S1 r ⟨n, e, n1, q⟩ => by
    subst e
    obtain ⟨v, rr, e1, r1, r2⟩ := r
    subst e1
    cases (show v = _ from r1)
    cases (show rr = [] from r2)
    exact ⟨n, rfl, n1.2, n1.1, k _ H0' H1' ρ' _ s1 S1 jok_rng q⟩⟩
theorem i_rng2 (hr : Blt g.X "range" (.type "range")) (h : GoA g [a, b] ρ fun ρ1 ds => ∃ m n : Int, ds = [.int m, .int n] ∧ (-(2 ^ 62) ≤ m ∧ m < 2 ^ 62 ∧ -(2 ^ 62) ≤ n ∧ n < 2 ^ 62) ∧ Q ρ1 (rng m (n - m).toNat))
    (h1 : starEach [a, b] g.X.env = [(false, eval a g.X.env), (false, eval b g.X.env)] := by rfl) (h2 : starEach [b] g.X.env = [(false, eval b g.X.env)] := by rfl) : GoI g tg (.Call (.Name "range" p) [a, b] [] p2) ρ Q :=
  ⟨_, pi_range2 hr.hg hr.hm pXA h1 h2, fun σ H0 H1 S T R k => h σ H0 H1 S T _ fun vs H0' H1' ρ' ds s1 S1 r ⟨m, n, e, nn, q⟩ => by
    subst e
    obtain ⟨v, rr, e1, r1, v2, r2, e2, r3, r4⟩ := r
    subst e1; subst e2
    cases (show v = _ from r1)
    cases (show v2 = _ from r3)
    cases (show r2 = [] from r4)
    exact ⟨m, n, rfl, nn, k _ H0' H1' ρ' _ s1 S1 jok_rng q⟩⟩
end

/-! ### for, over anything that is walked -/
section
variable {g : G} {k : Nat} {ρ : Rho} {iter tg : Expr} {body : List Stmt} {pos : Pos} {t : TG} {nx : Rho → Prop} {rt : Rho → A → Prop} {bk ct : Rho → Prop}
theorem s_for (hc : Ct g.X k) (hg : PG g.X tg t) (h : GoI g tg iter ρ fun ρ1 ds => Loop g t body ds ρ1 nx rt) (hs : ∀ x, foldedSetIterable iter g.X.env x = pure x := by intro _; rfl) : GoS g (.For tg iter body [] pos) ρ ⟨nx, rt, bk, ct⟩ := by
  obtain ⟨wi, hi, h⟩ := h
  refine s_of (ps_for hc.po hc.calm hi hg pXSs hs) fun σ H0 H1 S T De w => h σ H0 H1 S T _ fun J H0' H1' ρ' ds s1 S1 jo L => ?_
  have w1 := w.step s1
  have T1 := T.step s1
  refine ⟨fun i m σ2 H2 => m = ds.length - i ∧ PvL g t body nx rt σ ρ' H0' H1' ds i σ2 H2, ⟨ds.length, by simp, loop_start S1 L⟩, ?_⟩
  rintro i m σ2 H2 ⟨rfl, q⟩
  have hi' : i ≤ ds.length := q.1
  have sm : Same H0' H2 := by
    obtain ⟨_, K0, ρ1, st, SS, _⟩ := q
    exact L2.Same.trans st.kn SS.sub
  by_cases hlt : i < ds.length
  · refine .inr ⟨jo.go i H2 sm hlt, PvL g t body nx rt σ ρ' H0' H1' ds (i + 1), fun σ' H' p' => ⟨ds.length - (i + 1), by omega, rfl, p'⟩, fun x H' y => ?_⟩
    obtain ⟨e, hr⟩ := jo.yld i H2 x H' sm y
    subst e
    exact loop_turn w1 T1 (List.getElem?_eq_getElem hlt) (fun K0 e => hr _ (List.getElem?_eq_getElem hlt) K0 e) q
  · have e : i = ds.length := by omega
    subst e
    exact .inl ⟨jo.stop _ H2 sm (Nat.le_refl _), loop_end w1 q⟩
end

/-! ### comprehensions -/
/-- a comprehension's block -/
def BlkOf (X X' : Cx) (scope : Scope) : Prop := ∃ (s : Shared) (H : Hp) (C : Addr) (cl : List (Str × Addr)) (fp : List Addr), X' = X.blk s H scope (compEnvC scope cl C X.env) fp
theorem lookup_map_kind {f : Str → NameKind → NameKind} : ∀ {names : List (Str × NameKind)} {x : Str}, (names.map fun p => (p.1, f p.1 p.2)).lookup x = (names.lookup x).map (f x)
  | [], _ => rfl
  | (n, k) :: r, x => by
    rw [List.map_cons, List.lookup_cons, List.lookup_cons]
    cases hb : x == n with
    | true => have e : x = n := by simpa using hb
              subst e; rfl
    | false => exact lookup_map_kind
def sub (xs : List (Str × Nat)) : List Nat := xs.map (·.2)
def wipeR (ρ : Rho) : List Nat → Rho
  | [] => ρ
  | v :: vs => (wipeR ρ vs).set v none
/-- no own object stands in those slots -/
def noOwn (ρ : Rho) (vs : List Nat) : Bool := vs.all fun i => match ρ[i]? with
  | some (some (.own _ _)) => false
  | _ => true
def restore (ρ ρ2 : Rho) : List Nat → Rho
  | [] => ρ2
  | v :: vs => (restore ρ ρ2 vs).set v (match ρ[v]? with | some x => x | none => none)
theorem wipeR_out {ρ : Rho} {i : Nat} : ∀ {vs : List Nat}, i ∉ vs → (wipeR ρ vs)[i]? = ρ[i]?
  | [], _ => rfl
  | v :: vs, h => by
    have h1 : i ≠ v := fun e => h (by rw [e]; exact List.mem_cons_self)
    unfold wipeR
    rw [get_set_ne h1]
    exact wipeR_out fun z => h (List.mem_cons_of_mem _ z)
theorem wipeR_in {ρ : Rho} {i : Nat} {x : A} : ∀ {vs : List Nat}, i ∈ vs → (wipeR ρ vs)[i]? ≠ some (some x)
  | v :: vs, h => by
    unfold wipeR
    by_cases e : i = v
    · subst e
      intro q
      have hl : i < (wipeR ρ vs).length := by have := (List.getElem?_eq_some_iff.mp q).1; simpa using this
      rw [List.getElem?_set_self hl] at q; cases q
    · rw [get_set_ne e]
      exact wipeR_in ((List.mem_cons.mp h).resolve_left e)
theorem wipeR_len {ρ : Rho} : ∀ {vs : List Nat}, (wipeR ρ vs).length = ρ.length
  | [] => rfl
  | v :: vs => by simp [wipeR, wipeR_len (vs := vs)]
theorem restore_len {ρ ρ2 : Rho} : ∀ {vs : List Nat}, (restore ρ ρ2 vs).length = ρ2.length
  | [] => rfl
  | v :: vs => by simp [restore, restore_len (vs := vs)]
theorem restore_out {ρ ρ2 : Rho} {i : Nat} : ∀ {vs : List Nat}, i ∉ vs → (restore ρ ρ2 vs)[i]? = ρ2[i]?
  | [], _ => rfl
  | v :: vs, h => by
    have h1 : i ≠ v := fun e => h (by rw [e]; exact List.mem_cons_self)
    unfold restore
    rw [get_set_ne h1]
    exact restore_out fun z => h (List.mem_cons_of_mem _ z)
theorem restore_in {ρ ρ2 : Rho} {i : Nat} (hl : ρ.length = ρ2.length) : ∀ {vs : List Nat}, i ∈ vs → (restore ρ ρ2 vs)[i]? = ρ[i]?
  | v :: vs, h => by
    unfold restore
    by_cases e : i = v
    · subst e
      by_cases hh : i < ρ.length
      · rw [List.getElem?_set_self (by rw [restore_len]; omega), List.getElem?_eq_getElem hh]
      · rw [List.getElem?_eq_none (by rw [List.length_set, restore_len]; omega), List.getElem?_eq_none (by omega)]
    · rw [get_set_ne e]
      exact restore_in hl ((List.mem_cons.mp h).resolve_left e)
theorem wipe_outσ {σ : L2.St} {i : Nat} : ∀ {vs : List Nat}, i ∉ vs → (wipe σ vs)[i]? = σ[i]?
  | [], _ => rfl
  | v :: vs, h => by
    have h1 : i ≠ v := fun e => h (by rw [e]; exact List.mem_cons_self)
    unfold wipe
    rw [get_set_ne h1]
    exact wipe_outσ fun z => h (List.mem_cons_of_mem _ z)
theorem wipe_inσ {σ : L2.St} {i : Nat} : ∀ {vs : List Nat}, i ∈ vs → i < σ.length → (wipe σ vs)[i]? = some none
  | v :: vs, h, hl => by
    unfold wipe
    by_cases e : i = v
    · subst e
      rw [List.getElem?_set_self (by rw [wipe_length]; exact hl)]
    · rw [get_set_ne e]
      exact wipe_inσ ((List.mem_cons.mp h).resolve_left e) hl
/-- slots outside vs are kept by the target -/
theorem wipe_eq {σ σ2 : L2.St} {vs : List Nat} (hl : σ2.length = σ.length) (h : ∀ j, j ∉ vs → σ2[j]? = σ[j]?) : wipe σ2 vs = wipe σ vs := by
  apply List.ext_getElem?
  intro j
  by_cases hj : j ∈ vs
  · by_cases z : j < σ.length
    · rw [wipe_inσ hj (by omega), wipe_inσ hj z]
    · rw [List.getElem?_eq_none (by rw [wipe_length]; omega), List.getElem?_eq_none (by rw [wipe_length]; omega)]
  · rw [wipe_outσ hj, wipe_outσ hj, h j hj]
/-- a target within the slots vs -/
def WGv (g : G) (t : TG) (vs : List Nat) (d : D) (ρ : Rho) (Q : Rho → Prop) : Prop := ∀ σ H0 H1, Sat g.X.K H0 H1 σ ρ → ∀ v, Rep g.X.K H0 v d → ∀ Qv : L2.St → Hp → Prop,
  (∀ σ' ρ', σ'.length = σ.length → (∀ j, j ∉ vs → σ'[j]? = σ[j]?) → Step σ ρ H0 H1 σ' ρ' H0 H1 → Sat g.X.K H0 H1 σ' ρ' → Q ρ' → Qv σ' H1) → t v σ H1 Qv
def WGvs (g : G) (t : TGs) (vs : List Nat) (ds : List D) (ρ : Rho) (Q : Rho → Prop) : Prop := ∀ σ H0 H1, Sat g.X.K H0 H1 σ ρ → ∀ us, Reps g.X.K H0 us ds → ∀ Qv : L2.St → Hp → Prop,
  (∀ σ' ρ', σ'.length = σ.length → (∀ j, j ∉ vs → σ'[j]? = σ[j]?) → Step σ ρ H0 H1 σ' ρ' H0 H1 → Sat g.X.K H0 H1 σ' ρ' → Q ρ' → Qv σ' H1) → t us σ H1 Qv
section
variable {g : G} {ρ : Rho} {d : D} {ds : List D} {Q : Rho → Prop} {i : Nat} {t : TG} {u : TGs} {n : Nat} {vs : List Nat}
theorem gv_name (np : npar ρ i = true) (hi : i ∈ vs) (q : Q (ρ.set i (some (.val d)))) : WGv g (gName i) vs d ρ Q := fun σ H0 H1 S v r Qv k =>
  k _ _ (by simp) (fun j hj => get_set_ne fun e => hj (by rw [e]; exact hi)) (step_set np) (sat_set S r) q
theorem gvs_nil (q : Q ρ) : WGvs g gNil vs [] ρ Q := fun σ H0 H1 S us r Qv k => ⟨r, k _ _ rfl (fun _ _ => rfl) Step.refl S q⟩
theorem gvs_cons (h : WGv g t vs d ρ fun ρ1 => WGvs g u vs ds ρ1 Q) : WGvs g (gCons t u) vs (d :: ds) ρ Q := fun σ H0 H1 S us ⟨v, r, e, r1, r2⟩ Qv k =>
  ⟨v, r, e, h σ H0 H1 S v r1 _ fun σ' ρ' l1 o1 st S' q => q σ' H0 H1 S' r r2 Qv fun σ'' ρ'' l2 o2 s1 s2 s3 => k σ'' ρ'' (l2.trans l1) (fun j hj => (o2 j hj).trans (o1 j hj)) (st.trans s1) s2 s3⟩
theorem gv_tup (hn : ds.length = n) (h : WGvs g u vs ds ρ Q) : WGv g (gTup g.X.K n u) vs (.tup ds) ρ Q := fun σ H0 H1 S v ⟨a, us, e, s, r⟩ Qv k =>
  ⟨a, us, e, Same.tup S.sub s, by rw [r.length]; exact hn, h σ H0 H1 S us r Qv k⟩
end
/-- the tests of a comprehension -/
def GoIf (g : G) (ifs : List Expr) (ρ : Rho) (Q : Rho → Bool → Prop) : Prop := match ifs with
  | [] => Q ρ true
  | [c] => GoT g c ρ Q
  | _ => False
/-- the turns of a comprehension: acc is what is made so far -/
def LoopC (X : Cx) (scope : Scope) (t : TG) (ifs : List Expr) (elt : Expr) (vs : List Nat) : List D → List D → Rho → (Rho → List D → Prop) → Prop
  | [], acc, ρ, Kt => Kt ρ acc
  | d :: ds, acc, ρ, Kt => noOwn ρ vs = true ∧ acc.length < 100000 ∧ WGv ⟨X, fun _ _ => False⟩ t vs d (wipeR ρ vs) fun ρa => ∀ X', BlkOf X X' scope → GoIf ⟨X', fun _ _ => False⟩ ifs ρa fun ρb b =>
      (b = true → ∀ X'', BlkOf X X'' scope → GoV ⟨X'', fun _ _ => False⟩ elt ρb fun ρc y => ρc.length = ρ.length → LoopC X scope t ifs elt vs ds (acc ++ [y]) (restore ρ ρc vs) Kt) ∧ (b = false → ρb.length = ρ.length → LoopC X scope t ifs elt vs ds acc (restore ρ ρb vs) Kt)
section
variable {K : PySem.W.Frag} {σ σ2 : L2.St} {ρ ρc : Rho} {H0 H1 H0' H1' : Hp} {vs : List Nat}
theorem no_own {i : Nat} {b : Bool} {o : O} (h : noOwn ρ vs = true) (hi : i ∈ vs) (e : ρ[i]? = some (some (.own b o))) : False := by
  have q := List.all_eq_true.mp h i hi
  rw [e] at q
  cases q
theorem wipe_sat (S : Sat K H0 H1 σ ρ) : Sat K H0 H1 (wipe σ vs) (wipeR ρ vs) := by
  have sub : ∀ (j : Nat) (x : A), (wipeR ρ vs)[j]? = some (some x) → j ∉ vs ∧ ρ[j]? = some (some x) := fun j x e => by
    by_cases z : j ∈ vs
    · exact (wipeR_in z e).elim
    · rw [wipeR_out z] at e; exact ⟨z, e⟩
  refine ⟨S.sub, fun j d e => ?_, fun j b o e => ?_, fun j k p ⟨⟨b, o, h1⟩, h2⟩ ⟨⟨b', o', h3⟩, h4⟩ => ?_, by rw [wipe_length, wipeR_len, S.len]⟩
  · obtain ⟨z, e'⟩ := sub j _ e
    rw [wipe_outσ z]; exact S.val j d e'
  · obtain ⟨z, e'⟩ := sub j _ e
    rw [wipe_outσ z]; exact S.own j b o e'
  · obtain ⟨z, e'⟩ := sub j _ h1
    obtain ⟨z2, e2⟩ := sub k _ h3
    rw [wipe_outσ z] at h2
    rw [wipe_outσ z2] at h4
    exact S.dist j k p ⟨⟨b, o, e'⟩, h2⟩ ⟨⟨b', o', e2⟩, h4⟩
theorem back_block (S : Sat K H0 H1 σ ρ) (no : noOwn ρ vs = true) (hl : ρc.length = ρ.length) (hσ : ∀ j, j ∉ vs → σ2[j]? = (wipe σ vs)[j]?) (st : Step (wipe σ vs) (wipeR ρ vs) H0 H1 σ2 ρc H0' H1') (S2 : Sat K H0' H1' σ2 ρc) :
    Sat K H0' H1' σ (restore ρ ρc vs) ∧ Step σ ρ H0 H1 σ (restore ρ ρc vs) H0' H1' := by
  have hσ' : ∀ j, j ∉ vs → σ2[j]? = σ[j]? := fun j hj => by rw [hσ j hj, wipe_outσ hj]
  have ow : ∀ (j : Nat) (b : Bool) (o : O), (restore ρ ρc vs)[j]? = some (some (.own b o)) → j ∉ vs ∧ ρc[j]? = some (some (.own b o)) := fun j b o e => by
    by_cases z : j ∈ vs
    · rw [restore_in hl.symm z] at e
      exact (no_own no z e).elim
    · rw [restore_out z] at e; exact ⟨z, e⟩
  have c1 : ∀ a, Cell σ (restore ρ ρc vs) a → Cell σ2 ρc a := fun a ⟨j, ⟨b, o, h1⟩, h2⟩ => by
    obtain ⟨z, e⟩ := ow j b o h1
    exact ⟨j, ⟨b, o, e⟩, by rw [hσ' j z]; exact h2⟩
  have c2 : ∀ a, Cell (wipe σ vs) (wipeR ρ vs) a → Cell σ ρ a := fun a ⟨j, ⟨b, o, h1⟩, h2⟩ => by
    by_cases z : j ∈ vs
    · exact (wipeR_in z h1).elim
    · rw [wipeR_out z] at h1
      rw [wipe_outσ z] at h2
      exact ⟨j, ⟨b, o, h1⟩, h2⟩
  refine ⟨⟨S2.sub, fun j d e => ?_, fun j b o e => ?_, fun j k p ⟨⟨b, o, h1⟩, h2⟩ ⟨⟨b', o', h3⟩, h4⟩ => ?_, by rw [restore_len, hl, S.len]⟩, ⟨st.kn, fun a u h => ?_, fun a u h hc => st.fr a u h fun c => hc (c2 a c), st.dom, fun a h => ?_, fun j p ⟨⟨o, h1⟩, h2⟩ => ?_⟩⟩
  · by_cases z : j ∈ vs
    · rw [restore_in hl.symm z] at e
      obtain ⟨v, h1, h2⟩ := S.val j d e
      exact ⟨v, h1, h2.mono st.kn⟩
    · rw [restore_out z] at e
      rw [← hσ' j z]; exact S2.val j d e
  · obtain ⟨z, e'⟩ := ow j b o e
    rw [← hσ' j z]; exact S2.own j b o e'
  · obtain ⟨z, e'⟩ := ow j b o h1
    obtain ⟨z2, e2⟩ := ow k b' o' h3
    exact S2.dist j k p ⟨⟨b, o, e'⟩, by rw [hσ' j z]; exact h2⟩ ⟨⟨b', o', e2⟩, by rw [hσ' k z2]; exact h4⟩
  · rcases st.new a u h with w | w | w
    · exact .inl w
    · exact .inr (.inl w)
    · exact .inr (.inr (c2 a w))
  · rcases st.cell a (c1 a h) with w | w
    · exact .inl (c2 a w)
    · exact .inr w
  · have z : j ∉ vs := fun z => no_own no z h1
    obtain ⟨⟨u, e1⟩, e2⟩ := st.par j p ⟨⟨o, by rw [wipeR_out z]; exact h1⟩, by rw [wipe_outσ z]; exact h2⟩
    exact ⟨⟨u, by rw [restore_out z]; exact e1⟩, h2⟩
end
section
variable {g : G} {k : Nat} {ρ : Rho} {elt iter tg : Expr} {ifs : List Expr} {scope : Scope} {own : List (Str × Nat)} {pos : Pos} {t : TG} {Q : Rho → A → Prop}
/-- the reading of the block's parts, whatever the block's frame -/
def tXb (X : Cx) (scope : Scope) (e : Expr) : TE := fun σ H Q => ∀ X', BlkOf X X' scope → tX X' e σ H Q
def tIfb (X : Cx) (scope : Scope) (ifs : List Expr) : TT := match ifs with
  | [] => tYes
  | [c] => fun σ H Q => ∀ X', BlkOf X X' scope → tXT X' c σ H Q
  | _ => fun _ _ _ => False
theorem pts_b {X : Cx} (hl : ifs.length ≤ 1) : ∀ (s : Shared) (H : Hp) (C : Addr) (cl : List (Str × Addr)) (fp : List Addr), PTs (X.blk s H scope (compEnvC scope cl C X.env) fp) ifs (tIfb X scope ifs) := fun s H C cl fp => by
  match ifs, hl with
  | [], _ => exact pts_nil
  | [c], _ => exact pts_one ⟨fun pins s' σ H' Q I h => h _ ⟨s, H, C, cl, fp, rfl⟩ pins s' I⟩
theorem exb_blk (X : Cx) (scope : Scope) : ∃ X', BlkOf X X' scope := ⟨_, X.s_0, X.H_0, 0, [], [], rfl⟩
theorem we_lc {wi : TI} {vs : List Nat} (hl : ifs.length ≤ 1) (h : WI g wi ρ fun ρ1 ds => ds.length ≤ 100000 ∧ LoopC g.X scope t ifs elt vs ds [] ρ1 fun ρ2 out => Q ρ2 (.own false (.lst out))) : WE g (tLc wi t (tIfb g.X scope ifs) (tXb g.X scope elt) vs) ρ Q := by
  intro σ H0 H1 S T Qv kk
  refine h σ H0 H1 S T _ fun J Ha Hb ρ1 ds s1 S1 jo ⟨hz, L⟩ => ?_
  intro Da hD
  obtain ⟨Sm, sm, h0, hc⟩ := sat_mine (u := .lst []) S1 hD
  refine ⟨fun i m H => m = ds.length - i ∧ i ≤ ds.length ∧ ∃ K0 ρ2 acc av, Step σ ρ1 Ha Hb σ ρ2 K0 H ∧ Sat g.X.K K0 H σ ρ2 ∧ H Da = some (.lst av) ∧ Reps g.X.K K0 av acc ∧ K0 Da = none ∧ ¬ Cell σ ρ2 Da ∧ LoopC g.X scope t ifs elt vs (ds.drop i) acc ρ2 fun ρ2 out => Q ρ2 (.own false (.lst out)),
    ⟨ds.length, by simp, Nat.zero_le _, Ha, ρ1, [], [], sm, Sm, upd_same, rfl, h0, hc, by rw [List.drop_zero]; exact L⟩, ?_⟩
  rintro i m H ⟨rfl, hi, K0, ρ2, acc, av, st, S2, hDa, ra, k0, nc, L2'⟩
  have sm2 : Same Ha H := L2.Same.trans st.kn S2.sub
  by_cases hlt : i < ds.length
  · refine .inr ⟨jo.go i H sm2 hlt, fun H' => ∃ K0 ρ2 acc av, Step σ ρ1 Ha Hb σ ρ2 K0 H' ∧ Sat g.X.K K0 H' σ ρ2 ∧ H' Da = some (.lst av) ∧ Reps g.X.K K0 av acc ∧ K0 Da = none ∧ ¬ Cell σ ρ2 Da ∧ LoopC g.X scope t ifs elt vs (ds.drop (i + 1)) acc ρ2 fun ρ2 out => Q ρ2 (.own false (.lst out)),
      fun H' p' => ⟨ds.length - (i + 1), by omega, rfl, hlt, p'⟩, fun x H' y => ?_⟩
    obtain ⟨e, hr⟩ := jo.yld i H x H' sm2 y
    subst e
    have ed : ds.drop i = ds[i] :: ds.drop (i + 1) := List.drop_eq_getElem_cons hlt
    rw [ed] at L2'
    obtain ⟨no, hacc, L3⟩ := L2'
    have rx : Rep g.X.K K0 x ds[i] := hr _ (List.getElem?_eq_getElem hlt) K0 st.kn
    -- what a way through the block leaves
    have fin : ∀ {σ2 : L2.St} {ρc : Rho} {K1 H4 : Hp}, (∀ j, j ∉ vs → σ2[j]? = (wipe σ vs)[j]?) → Step (wipe σ vs) (wipeR ρ2 vs) K0 H' σ2 ρc K1 H4 → Sat g.X.K K1 H4 σ2 ρc → σ2.length = (wipe σ vs).length → ρc.length = ρ2.length ∧
        (∀ hl2 : ρc.length = ρ2.length, Sat g.X.K K1 H4 σ (restore ρ2 ρc vs) ∧ Step σ ρ1 Ha Hb σ (restore ρ2 ρc vs) K1 H4 ∧ H4 Da = some (.lst av) ∧ K1 Da = none ∧ ¬ Cell σ (restore ρ2 ρc vs) Da) := fun {σ2 ρc K1 H4} ho sb S4 hl4 => by
      have e1 : ρc.length = ρ2.length := by rw [← S4.len, hl4, wipe_length, S2.len]
      refine ⟨e1, fun hl2 => ?_⟩
      obtain ⟨S5, s5⟩ := back_block S2 no hl2 ho sb S4
      refine ⟨S5, st.trans s5, s5.fr Da _ hDa nc, ?_, fun c => ?_⟩
      · cases q : K1 Da with
        | none => rfl
        | some z =>
          rcases s5.new Da z q with w | w | w
          · rw [k0] at w; cases w
          · rw [hDa] at w; cases w
          · exact (nc w).elim
      · rcases s5.cell Da c with w | w
        · exact nc w
        · rw [hDa] at w; cases w
    have KX : ∀ X', BlkOf g.X X' scope → X'.K = g.X.K := fun X' ⟨_, _, _, _, _, e⟩ => by rw [e]
    have TX : ∀ X' σ ρ H0 H1, BlkOf g.X X' scope → Tk ⟨X', fun _ _ => False⟩ σ ρ H0 H1 := fun X' σ ρ H0 H1 ⟨_, _, _, _, _, e⟩ => by
      subst e
      exact takes0.imp fun c d σ' H' ⟨C, _, _, _, _, _, _, z⟩ => z
    refine L3 (wipe σ vs) K0 H' (wipe_sat S2) x rx _ fun σ2 ρa hl2 ho sa Sa L4 => ⟨wipe_eq (hl2.trans (wipe_length σ vs)) (fun j hj => (ho j hj).trans (wipe_outσ hj)), ?_⟩
    have elts : ∀ {ρb : Rho} {K1 H3 : Hp}, Step (wipe σ vs) (wipeR ρ2 vs) K0 H' σ2 ρb K1 H3 → Sat g.X.K K1 H3 σ2 ρb → ∀ b : Bool,
        ((b = true → ∀ X'', BlkOf g.X X'' scope → GoV ⟨X'', fun _ _ => False⟩ elt ρb fun ρc y => ρc.length = ρ2.length → LoopC g.X scope t ifs elt vs (ds.drop (i + 1)) (acc ++ [y]) (restore ρ2 ρc vs) fun ρ2 out => Q ρ2 (.own false (.lst out))) ∧
          (b = false → ρb.length = ρ2.length → LoopC g.X scope t ifs elt vs (ds.drop (i + 1)) acc (restore ρ2 ρb vs) fun ρ2 out => Q ρ2 (.own false (.lst out)))) →
        if b = true then tXb g.X scope elt σ2 H3 (fun y H4 => ∃ acc : List V, H4 Da = some (.lst acc) ∧ acc.length < sizeLine ∧
          (∃ K0 ρ2 acc' av, Step σ ρ1 Ha Hb σ ρ2 K0 (upd H4 Da (.lst (acc ++ [y]))) ∧ Sat g.X.K K0 (upd H4 Da (.lst (acc ++ [y]))) σ ρ2 ∧ (upd H4 Da (.lst (acc ++ [y]))) Da = some (.lst av) ∧ Reps g.X.K K0 av acc' ∧ K0 Da = none ∧ ¬ Cell σ ρ2 Da ∧ LoopC g.X scope t ifs elt vs (ds.drop (i + 1)) acc' ρ2 fun ρ2 out => Q ρ2 (.own false (.lst out))))
        else (∃ K0 ρ2 acc' av, Step σ ρ1 Ha Hb σ ρ2 K0 H3 ∧ Sat g.X.K K0 H3 σ ρ2 ∧ H3 Da = some (.lst av) ∧ Reps g.X.K K0 av acc' ∧ K0 Da = none ∧ ¬ Cell σ ρ2 Da ∧ LoopC g.X scope t ifs elt vs (ds.drop (i + 1)) acc' ρ2 fun ρ2 out => Q ρ2 (.own false (.lst out))) := by
      intro ρb K1 H3 sb Sb b q
      cases b with
      | true =>
        rw [if_pos rfl]
        intro X'' hX''
        refine q.1 rfl X'' hX'' σ2 K1 H3 (by rw [KX X'' hX'']; exact Sb) (TX X'' _ _ _ _ hX'') _ fun y K2 H4 ρc yd sc Sc ry qq => ?_
        rw [KX X'' hX''] at Sc ry
        obtain ⟨e1, f⟩ := fin (σ2 := σ2) (ρc := ρc) (K1 := K2) (H4 := H4) ho (sb.trans sc) Sc hl2
        obtain ⟨S5, s5, hD5, k5, nc5⟩ := f e1
        refine ⟨av, hD5, by rw [ra.length]; exact Nat.lt_of_lt_of_le hacc (by decide), K2, restore ρ2 ρc vs, acc ++ [yd], av ++ [y], ?_, ?_, upd_same, ?_, k5, nc5, qq e1⟩
        · refine ⟨s5.kn, s5.new, fun a u h hc => ?_, fun a h => ?_, s5.cell, s5.par⟩
          · have ne : a ≠ Da := ne_of_none h hD
            rw [upd_ne ne]; exact s5.fr a u h hc
          · have ne : a ≠ Da := fun e => by subst e; rw [upd_same] at h; cases h
            rw [upd_ne ne] at h; exact s5.dom a h
        · refine ⟨fun a u h => ?_, S5.val, fun j b o h => ?_, S5.dist, S5.len⟩
          · have ne : a ≠ Da := fun e => by subst e; rw [k5] at h; cases h
            rw [upd_ne ne]; exact S5.sub a u h
          · obtain ⟨p, h1, h2, h3⟩ := S5.own j b o h
            have ne : p ≠ Da := fun e => nc5 ⟨j, ⟨b, o, h⟩, by rw [← e]; exact h1⟩
            exact ⟨p, h1, h2, h3.up (L2.Same.refl _) fun u hu => by rw [upd_ne ne]; exact hu⟩
        · exact (ra.mono (L2.Same.trans sb.kn sc.kn)).snoc ry
      | false =>
        rw [if_neg (by decide)]
        obtain ⟨e1, f⟩ := fin (σ2 := σ2) (ρc := ρb) (K1 := K1) (H4 := H3) ho sb Sb hl2
        obtain ⟨S5, s5, hD5, k5, nc5⟩ := f e1
        exact ⟨K1, restore ρ2 ρb vs, acc, av, s5, S5, hD5, ra.mono sb.kn, k5, nc5, q.2 rfl e1⟩
    obtain ⟨X0, hX0⟩ := exb_blk g.X scope
    match ifs, hl with
    | [], _ => exact elts sa Sa true (L4 X0 hX0)
    | [c], _ =>
      intro X' hX'
      refine L4 X' hX' σ2 K0 H' (by rw [KX X' hX']; exact Sa) (TX X' _ _ _ _ hX') _ fun K1 H3 ρb b sc Sc qq => ?_
      rw [KX X' hX'] at Sc
      exact elts (sa.trans sc) Sc b qq
  · have e : i = ds.length := by omega
    subst e
    rw [List.drop_length] at L2'
    exact .inl ⟨jo.stop _ H sm2 (Nat.le_refl _), kk _ K0 H ρ2 _ (s1.trans st) S2 (res_lst k0 (s1.dom Da hD) nc hDa ra) L2'⟩
theorem rel_lookup {env : Env} {x : Str} {kd : NameKind} (h : scope.names.lookup x = some kd) : ∃ kd', (relabel scope env).names.lookup x = some kd' ∧ (kd' = kd ∨ (kd = .free ∧ kd' = .cell)) := by
  let f : Str → NameKind → NameKind := fun n k => if (k == .free && env.scope.kind == .function && env.kindOf n == some .cell) = true then NameKind.cell else k
  have e : (relabel scope env).names = scope.names.map fun p => (p.1, f p.1 p.2) := by
    unfold relabel
    show scope.names.map _ = _
    apply List.map_congr_left
    rintro ⟨n, k⟩ _
    show (if _ then _ else _) = (n, if _ then _ else _)
    split <;> rename_i q <;> simp [q]
  have e2 : (relabel scope env).names.lookup x = (scope.names.lookup x).map (f x) := by rw [e]; exact lookup_map_kind
  rw [e2, h]
  refine ⟨f x kd, rfl, ?_⟩
  show (if _ then NameKind.cell else kd) = kd ∨ (_ ∧ (if _ then NameKind.cell else kd) = .cell)
  split
  · rename_i q
    simp only [Bool.and_eq_true, beq_iff_eq] at q
    exact .inr ⟨q.1.1, rfl⟩
  · exact .inl rfl
theorem WGv.imp {vs : List Nat} {d : D} {Q Q' : Rho → Prop} (h : WGv g t vs d ρ Q) (k : ∀ r, Q r → Q' r) : WGv g t vs d ρ Q' := fun σ H0 H1 S v r Qv q => h σ H0 H1 S v r Qv fun a b l o s1 s2 s3 => q a b l o s1 s2 (k b s3)
theorem GoIf.imp {Q Q' : Rho → Bool → Prop} (h : GoIf g ifs ρ Q) (k : ∀ r b, Q r b → Q' r b) : GoIf g ifs ρ Q' := by
  unfold GoIf at h ⊢
  split
  · exact k _ _ h
  · exact WT.imp h k
  · rename_i h1 h2
    split at h
    · exact (h1 rfl).elim
    · exact (h2 _ rfl).elim
    · exact h
theorem loopC_imp {X : Cx} {vs : List Nat} {Kt Kt' : Rho → List D → Prop} : ∀ {ds acc : List D} {ρ : Rho}, LoopC X scope t ifs elt vs ds acc ρ Kt → (∀ r o, Kt r o → Kt' r o) → LoopC X scope t ifs elt vs ds acc ρ Kt'
  | [], _, _, h, k => k _ _ h
  | d :: ds, acc, ρ, ⟨h1, h2, h3⟩, k => ⟨h1, h2, h3.imp fun ρa q X' hX => (q X' hX).imp fun ρb b ⟨q1, q2⟩ => ⟨fun hb X'' hX'' => (q1 hb X'' hX'').imp fun ρc y q3 hl => loopC_imp (q3 hl) k, fun hb hl => loopC_imp (q2 hb hl) k⟩⟩
section
variable {P : Program} {w : World} {K : PySem.W.Frag} {mg : Str → Option Value} {base : Heap} {N : List Str} {sc : Scope} {fl : Bool}
/-- where the block's walk stands -/
theorem Here.blk {X' : Cx} (h : Here P w K mg base N sc k fl g) (b : BlkOf g.X X' scope) (hk : scope.kind = .function) : Here P w K mg base N scope k false ⟨X', fun _ _ => False⟩ := by
  obtain ⟨s, H, C, cl, fp, rfl⟩ := b
  exact ⟨h.prog, h.w, h.K, h.mg, h.base, h.N, fun x kd e => rel_lookup e, h.room, h.calm, PassesOwn.never, h.nd, (fun e => by cases e), (fun e => by cases e), hk⟩
/-- a comprehension's target: one name of its own -/
theorem pgb_name {x : Str} {i : Nat} {p : Pos} (h : Here P w K mg base N sc k fl g) (hN : N[i]? = some x) (hl : scope.names.lookup x = some .local) :
    ∀ (s : Shared) (H : Hp) (C : Addr) (cl : List (Str × Addr)) (fp : List Addr), PG (g.X.blk s H scope (compEnvC scope cl C g.X.env) fp) (.Name x p) (gName i) := fun s H C cl fp => by
  obtain ⟨kd, h1, rfl | ⟨z, _⟩⟩ := rel_lookup (env := g.X.env) hl
  · exact pg_name h.nd (by show g.X.N[i]? = _; rw [h.N]; exact hN) (.inl h1) (.inr h1)
  · cases z
theorem pgb_nil : ∀ (s : Shared) (H : Hp) (C : Addr) (cl : List (Str × Addr)) (fp : List Addr), PGs (g.X.blk s H scope (compEnvC scope cl C g.X.env) fp) [] gNil := fun _ _ _ _ _ => pgs_nil
theorem pgb_cons {e : Expr} {es : List Expr} {t : TG} {u : TGs} (h1 : ∀ (s : Shared) (H : Hp) (C : Addr) (cl : List (Str × Addr)) (fp : List Addr), PG (g.X.blk s H scope (compEnvC scope cl C g.X.env) fp) e t)
    (h2 : ∀ (s : Shared) (H : Hp) (C : Addr) (cl : List (Str × Addr)) (fp : List Addr), PGs (g.X.blk s H scope (compEnvC scope cl C g.X.env) fp) es u)
    (hs : ∀ env, (assignEach (e :: es) env).map (·.2) = assign e env :: (assignEach es env).map (·.2) := by intro _; rfl) : ∀ (s : Shared) (H : Hp) (C : Addr) (cl : List (Str × Addr)) (fp : List Addr), PGs (g.X.blk s H scope (compEnvC scope cl C g.X.env) fp) (e :: es) (gCons t u) := fun s H C cl fp => pgs_cons (h1 s H C cl fp) (h2 s H C cl fp) (hs _)
theorem g_lc (hg : Here P w K mg base N sc k true g) (ok : blkC N sc scope own = true) (ht : ∀ (s : Shared) (H : Hp) (C : Addr) (cl : List (Str × Addr)) (fp : List Addr), PG (g.X.blk s H scope (compEnvC scope cl C g.X.env) fp) tg t) (hl : ifs.length ≤ 1)
    (h : GoI g tg iter ρ fun ρ1 ds => ds.length ≤ 100000 ∧ LoopC g.X scope t ifs elt (own.map (·.2)) ds [] ρ1 fun ρ2 out => Q ρ2 (.own false (.lst out))) (hs : ∀ x, foldedSetIterable iter g.X.env x = pure x := by intro _; rfl) : GoE g (.ListComp elt [⟨tg, iter, ifs, 0⟩] scope pos) ρ Q := by
  obtain ⟨wi, hi, h⟩ := h
  have ok' : BlkOk g.X.N g.X.env.scope scope own := by rw [hg.N, hg.sce rfl]; exact blkOk_by ok
  exact e_of (pe_lc hg.calm hg.nd hi ok' ht (pts_b hl) (fun s H C cl fp => ⟨fun pins s' σ H' Q I h => h _ ⟨s, H, C, cl, fp, rfl⟩ pins s' I⟩) hs) (we_lc hl h)
/-- y = [..], y a plain local name on the same line -/
theorem s_lc {y : Str} {py spos : Pos} {i : Nat} {nx : Rho → Prop} {rt : Rho → A → Prop} {bk ct : Rho → Prop} (hg : Here P w K mg base N sc k true g) (sw : SlotW g.X y i) (ly : Lcl g.X y) (ok : blkC N sc scope own = true) (ht : ∀ (s : Shared) (H : Hp) (C : Addr) (cl : List (Str × Addr)) (fp : List Addr), PG (g.X.blk s H scope (compEnvC scope cl C g.X.env) fp) tg t) (hl : ifs.length ≤ 1)
    (h : GoI g tg iter ρ fun ρ1 ds => ds.length ≤ 100000 ∧ LoopC g.X scope t ifs elt (own.map (·.2)) ds [] ρ1 fun ρ2 out => npar ρ2 i = true ∧ nx (ρ2.set i (some (.own false (.lst out)))))
    (hline : (py.line == pos.line) = true) (hany : (scope.names.any fun (n, k) => n == y && (k == .local || k == .cell)) = false) (hs : ∀ x, foldedSetIterable iter g.X.env x = pure x := by intro _; rfl) : GoS g (.Assign [.Name y py] (.ListComp elt [⟨tg, iter, ifs, 0⟩] scope pos) spos) ρ ⟨nx, rt, bk, ct⟩ := by
  obtain ⟨wi, hi, h⟩ := h
  have ok' : BlkOk g.X.N g.X.env.scope scope own := by rw [hg.N, hg.sce rfl]; exact blkOk_by ok
  have hw := we_lc (Q := fun ρ2 a => ∃ out, a = .own false (.lst out) ∧ npar ρ2 i = true ∧ nx (ρ2.set i (some (.own false (.lst out))))) (t := t) (elt := elt) hl (wi := wi) (vs := own.map (·.2)) (fun σ H0 H1 S T R k => h σ H0 H1 S T R fun J a b c d s1 s2 s3 ⟨s4, s5⟩ => k J a b c d s1 s2 s3 ⟨s4, loopC_imp s5 fun r o q => ⟨o, rfl, q⟩⟩)
  exact s_of (ps_setLc hg.calm hg.nd sw.hN ly (sw_true (by rw [hg.sce rfl]; exact (hg.sce rfl) ▸ hg.kind) ly hline hany) hi ok' ht (pts_b hl) (fun s H C cl fp => ⟨fun pins s' σ H' Q I h => h _ ⟨s, H, C, cl, fp, rfl⟩ pins s' I⟩) hs) fun σ H0 H1 S T De w => hw σ H0 H1 S T _ fun v H0' H1' ρ' a s1 s2 r ⟨out, e, np, q⟩ => by
    subst e
    obtain ⟨pp, rfl, h0, hb, hc, u⟩ := r
    exact w.nx _ H0' H1' _ (step_setO s1 np hb) (sat_setO s2 h0 hc u) q
end
end
end FW

set_option Elab.async false
set_option linter.all false
set_option maxRecDepth 100000
set_option maxHeartbeats 4000000
/-! FW: a set made of a list of texts, of any number; how many it has -/
namespace FW
open PySem PySem.Spec PyProof.Rows L2

def uq (acc : List Str) (x : Str) : List Str := if x ∈ acc then acc else acc ++ [x]
def uniq (xs : List Str) : List Str := xs.foldl uq []
theorem uniq_snoc (xs : List Str) (x : Str) : uniq (xs ++ [x]) = uq (uniq xs) x := by unfold uniq; rw [List.foldl_append]; rfl
theorem uq_mem {acc : List Str} {x y : Str} : y ∈ uq acc x ↔ y ∈ acc ∨ y = x := by
  unfold uq
  split
  · rename_i h
    exact ⟨.inl, fun q => q.elim id fun e => e ▸ h⟩
  · rw [List.mem_append, List.mem_singleton]
theorem uniq_mem : ∀ (xs : List Str) {y : Str}, y ∈ uniq xs ↔ y ∈ xs := by
  have go : ∀ (xs acc : List Str) (y : Str), y ∈ xs.foldl uq acc ↔ y ∈ acc ∨ y ∈ xs := by
    intro xs
    induction xs with
    | nil => intro acc y; simp
    | cons x r ih => intro acc y; rw [List.foldl_cons, ih, uq_mem, List.mem_cons, or_assoc]
  intro xs y
  unfold uniq
  rw [go]
  simp
theorem uniq_le (xs : List Str) : (uniq xs).length ≤ xs.length := by
  have go : ∀ (xs acc : List Str), (xs.foldl uq acc).length ≤ acc.length + xs.length := by
    intro xs
    induction xs with
    | nil => intro acc; simp
    | cons x r ih =>
      intro acc
      rw [List.foldl_cons, List.length_cons]
      have h1 := ih (uq acc x)
      have h2 : (uq acc x).length ≤ acc.length + 1 := by unfold uq; split <;> simp
      omega
  have := go xs []
  simpa [uniq] using this
theorem uniq_nd : ∀ (xs : List Str), (uniq xs).length = xs.length ↔ xs.Nodup := by
  have go : ∀ (xs acc : List Str), (xs.foldl uq acc).length ≤ acc.length + xs.length ∧ ((xs.foldl uq acc).length = acc.length + xs.length ↔ xs.Nodup ∧ ∀ x ∈ xs, x ∉ acc) := by
    intro xs
    induction xs with
    | nil => intro acc; simp
    | cons x r ih =>
      intro acc
      rw [List.foldl_cons, List.length_cons]
      obtain ⟨h1, h2⟩ := ih (uq acc x)
      by_cases hx : x ∈ acc
      · have e : uq acc x = acc := by unfold uq; rw [if_pos hx]
        rw [e] at h1 h2 ⊢
        refine ⟨by omega, ⟨fun z => by omega, fun z => absurd hx (z.2 x List.mem_cons_self)⟩⟩
      · have e : uq acc x = acc ++ [x] := by unfold uq; rw [if_neg hx]
        have el : (uq acc x).length = acc.length + 1 := by rw [e]; simp
        rw [el] at h1 h2
        refine ⟨by omega, ?_⟩
        have e3 : (r.foldl uq (uq acc x)).length = acc.length + (r.length + 1) ↔ (r.foldl uq (uq acc x)).length = acc.length + 1 + r.length := by omega
        rw [e3, h2, List.nodup_cons]
        constructor
        · rintro ⟨q1, q2⟩
          refine ⟨⟨fun z => q2 x z (uq_mem.mpr (.inr rfl)), q1⟩, fun y hy => ?_⟩
          rcases List.mem_cons.mp hy with z | z
          · subst z; exact hx
          · exact fun w => q2 y z (uq_mem.mpr (.inl w))
        · rintro ⟨⟨q1, q2⟩, q3⟩
          refine ⟨q2, fun y hy w => ?_⟩
          rcases uq_mem.mp w with z | z
          · exact q3 y (List.mem_cons_of_mem _ hy) z
          · subst z; exact q1 hy
  intro xs
  have := (go xs []).2
  simpa [uniq] using this

section
variable {prog : Program} {w : World} {A : Around} {R : Result → Shared → Prop} {it : Addr} {fp wr : List Addr} {Gs : Array GenState → Array GenState → Prop} {n : Nat} {Pi : Nat → Value → Prop} {Si : Nat → Shared → Prop}
abbrev SetS (prog : Program) (w : World) (h : Heap) (a : Addr) (xs : List Str) : Prop := h.SetOf (PySem.strKind prog w) a (fun k => decide (k ∈ uniq xs)) (uniq xs).length
theorem setS_up {h h' : Heap} {a : Addr} {xs : List Str} (S : SetS prog w h a xs) (k : ∀ o, h.get? a = some o → h'.get? a = some o) : SetS prog w h' a xs := by
  obtain ⟨o, es, ep, t, ho, q⟩ := S
  exact ⟨o, es, ep, t, k o ho, q⟩
/-- the items go into the set one after another -/
theorem fill_set (W : WalksS prog w A.in1 it fp wr Gs n Pi Si) (a : Addr) (ha : a ∉ fp) (xs : List Str) (hn : xs.length = n) (hb : n + 1 < scanBound)
    (hv : ∀ i v, Pi i v → ∃ t, v = Value.str (xs.getD i Str.empty) t) :
    ∀ (m i : Nat) (s : Shared), i + m = n → Si i s → SetS prog w s.heap a (xs.take i) →
      (∀ s', Moved (a :: wr) Gs s s' → SetS prog w s'.heap a xs → R (.ok (.ret .none)) s') → codeAny (model prog w) A (.builtin "set.update.loop" ⟨[.ref a, .ref it], []⟩) R s
  | 0, i, s, hm, hs, hS, k => by
    have e : i = n := by omega
    subst e
    have hw : a ∉ wr := fun z => ha (W.sub _ z)
    refine codeAny_builtin F.entry_set_update_loop ?_
    rw [Around.under_plainId F.plain_set_update_loop _]
    show wpAny _ A.in1 (pyNext (.ref it) >>= _) _ _ s
    refine wpAny_bind (W.done s _ _ hs fun s1 mv => ?_)
    show wpAny _ A.in1 (ret Value.none) _ _ s1
    refine wpAny_pure (k s1 (mv.mono fun b hb => .tail _ hb) ?_)
    rw [← hn, List.take_length] at hS
    exact setS_up hS fun o e => mv.heap a o hw e
  | m + 1, i, s, hm, hs, hS, k => by
    have hlt : i < n := by omega
    have hw : a ∉ wr := fun z => ha (W.sub _ z)
    refine codeAny_builtin F.entry_set_update_loop ?_
    rw [Around.under_plainId F.plain_set_update_loop _]
    show wpAny _ A.in1 (pyNext (.ref it) >>= _) _ _ s
    refine wpAny_bind (W.item i s _ _ hlt hs fun v s1 hp hs1 mv => ?_)
    obtain ⟨t, rfl⟩ := hv i v hp
    have hS1 : SetS prog w s1.heap a (xs.take i) := setS_up hS fun o e => mv.heap a o hw e
    have hi' : i < xs.length := by omega
    have ex : xs.getD i Str.empty = xs[i] := by simp [List.getD_eq_getElem?_getD, hi']
    show wpAny _ A.in1 (holding [Value.str (xs.getD i Str.empty) t] (setAdd a (.str (xs.getD i Str.empty) t)) >>= _) _ _ s1
    rw [ex]
    refine wpAny_bind (wpAny_holding ?_)
    unfold setAdd
    refine wpAny_holding (wpAny_bind ((PySem.strKind prog w).pyHash (k := xs[i]) (strKind_is _ _ _ _) ?_))
    have room : (uniq (xs.take i)).length + 1 < scanBound := by
      have h1 := uniq_le (xs.take i)
      have h2 : (xs.take i).length ≤ i := by rw [List.length_take]; omega
      omega
    refine wpAny_setAddHashed_of (knd := PySem.strKind prog w) (s := { s1 with toks := s1.toks + 1 }) (strKind_is _ _ _ _) rfl hS1 room fun h2 same hS2 => ?_
    have tk : xs.take (i + 1) = xs.take i ++ [xs[i]] := by rw [List.take_add_one, List.getElem?_eq_getElem hi']; rfl
    have hS3 : SetS prog w h2 a (xs.take (i + 1)) := by
      refine SetOf_congr hS2 (fun y => ?_) ?_
      · rw [tk, uniq_snoc]
        have := @uq_mem (uniq (xs.take i)) xs[i] y
        by_cases z : y ∈ uq (uniq (xs.take i)) xs[i]
        · rw [decide_eq_true z]
          rcases this.mp z with q | q
          · simp [q]
          · simp [q]
        · rw [decide_eq_false z]
          have q1 : y ∉ uniq (xs.take i) := fun q => z (this.mpr (.inl q))
          have q2 : ¬ y = xs[i] := fun q => z (this.mpr (.inr q))
          simp [q1, q2]
      · rw [tk, uniq_snoc]
        unfold uq
        by_cases z : xs[i] ∈ uniq (xs.take i) <;> simp [z]
    refine wpAny_pure ⟨plainId_quiet F.plain_set_update_loop _, fill_set W a ha xs hn hb hv m (i + 1) _ (by omega) (W.frame _ s1 _ _ hs1 (Nat.le_succ _) fun b hb o e => ?_) hS3 fun s2 mv2 hS4 => ?_⟩
    · rw [same.2 b fun z => ha (z ▸ hb)]; exact e
    · refine k s2 (Moved.trans W.gtrans ((mv.mono fun b hb => List.Mem.tail _ hb).then_heap (Nat.le_succ _) fun b o hb e => ?_) mv2) hS4
      rw [same.2 b fun z => hb (z ▸ .head _)]; exact e
end
section
variable {prog : Program} {w : World} {A : Around} {E : Value → Shared → Prop} {s : Shared}
/-- the heap with the new, empty set -/
abbrev setNew (h : Heap) (led : Bool) : Heap := h.push { cls := .type "set", dict := none, data := .set #[] 0 (.fresh 0 0 led) }
set_option maxHeartbeats 6400000 in
/-- set(xs) of a list of texts -/
theorem call_setS {l : Addr} {items : Array Value} {xs : List Str} {Q : Value → Shared → Prop} (hh : A.handled = none) (hl : s.heap.IsList l items) (hi : StrsAre items.toList xs) (hb : xs.length + 1 < scanBound)
    (h : ∀ (h' : Heap) (tk : Nat), SetS prog w h' s.heap.objs.size xs → (∀ b o, s.heap.get? b = some o → h'.get? b = some o) → Q (.ref s.heap.objs.size) { s with heap := h', toks := tk }) :
    wpAny (model prog w) A (call (.type "set") [.ref l]) Q E s := by
  obtain ⟨cc, tl, mro⟩ := PySem.F.called_set.mro
  have q1 := PySem.F.called_set.made; have q2 := PySem.F.called_set.sub
  have q3 := PySem.F.called_set.notType; have q4 := PySem.F.called_set.canCreate; have q5 := PySem.F.typeCall_set_1 (.ref l)
  refine wpAny_call (codeAny_of_tree (show wpAny _ _ (callAny (.type "set") _) _ _ _ from ?_))
  refine wpAny_pure ⟨Code.quiet_builtin _ (by decide +kernel), codeAny_builtin PySem.F.entry_type_call ?_⟩
  rw [Around.under_plain (weight_type_call_type "set" [.ref l] []) rfl]
  repeat any_goals first | wp_step | assumption
  refine codeAny_mono (code_set_new_1 (.ref l) (E := E) (Q₁ := fun u s1 => ∃ led, u = .ref s.heap.objs.size ∧ s1 = { s with heap := setNew s.heap led }) fun led => ⟨led, rfl, rfl⟩) fun r s1 hr => ?_
  match r, hr with
  | .error e, hr => exact hr
  | .ok .next, hr => exact hr.elim
  | .ok .brk, hr => exact hr.elim
  | .ok .cont, hr => exact hr.elim
  | .ok (.ret u), hr =>
    obtain ⟨led, rfl, rfl⟩ := hr
    have at0 : (setNew s.heap led).get? s.heap.objs.size = some { cls := .type "set", dict := none, data := .set #[] 0 (.fresh 0 0 led) } := Heap.get?_push_size _ rfl
    have ty0 : Shared.TypeIs { s with heap := setNew s.heap led } (.ref s.heap.objs.size) "set" := ⟨_, at0, rfl⟩
    have i1 := PySem.F.called_set.init.lookup; have i2 := PySem.F.called_set.init.bind (.ref s.heap.objs.size)
    repeat any_goals first | wp_step | assumption
    refine codeAny_mono (codeAny_call_builtin (R := wants (fun r s2 => r = .none ∧ ∃ h' tk, s2 = { s with heap := h', toks := tk } ∧ SetS prog w h' s.heap.objs.size xs ∧ ∀ b o, s.heap.get? b = some o → h'.get? b = some o) E)
      PySem.F.called_set.init.plain PySem.F.entry_set_init (check_set_init_1 ty0 ?_)) fun r2 s2 hr2 => ?_
    · obtain ⟨⟨oc, od, odt, osl⟩, ho, hcl, nl, hdt⟩ := hl
      simp only at hcl hdt
      subst hcl; subst hdt
      have ho1 := Heap.get?_push_of_some { cls := Value.type "set", dict := none, data := .set #[] 0 (.fresh 0 0 led) } ho
      have lst1 : (setNew s.heap led).IsList l items := ⟨_, ho1, rfl, nl, rfl⟩
      have n1 := PySem.F.sub_list_set; have n2 := PySem.F.sub_list_frozenset
      have n3 : (Value.type "list" == Value.type "dict") = false := by decide
      unfold Builtin.«set.__init__» noKeywords Builtin.Frozenset.updateFrom
      generalize hP : pyIter = PP
      wp_walk
      subst hP
      refine wpAny_pyIter_list lst1 (wpAny_bind (wpAny_runValue ?_))
      have lt : l < s.heap.objs.size := Heap.lt_size ho
      have sz : (setNew s.heap led).objs.size = s.heap.objs.size + 1 := Heap.size_push ..
      have ne1 : l ≠ (setNew s.heap led).objs.size := by rw [sz]; exact Nat.ne_of_lt (Nat.lt_succ_of_lt lt)
      have nin : s.heap.objs.size ∉ [(setNew s.heap led).objs.size, l] := by
        rw [sz]; simp only [List.mem_cons, List.not_mem_nil, or_false, not_or]
        exact ⟨Nat.ne_of_lt (Nat.lt_succ_self _), Nat.ne_of_gt lt⟩
      have len : xs.length = items.size := by rw [← StrsAre.len_eq hi, Array.length_toList]
      refine fill_set ((Walks.list (by simp [hh]) _ l ne1 items).toS) s.heap.objs.size nin xs len (by omega) (fun i v hv => SS.strs_at hi i v (by rw [Array.getElem?_toList]; exact hv)) items.size 0 _ (by omega) ⟨⟨_, Heap.get?_push_size _ rfl, rfl, rfl⟩, lst1.push _⟩ ?_ fun s3 mv hS => ?_
      · exact SetOf_congr ((setObjOf_fresh (knd := PySem.strKind prog w) led).setOf (Heap.get?_push_of_some _ at0) (by unfold scanBound; omega)) (fun _ => rfl) rfl
      · obtain ⟨h3, g3, d3, t3, os3⟩ := s3
        have e1 : g3 = s.gens := mv.gens
        have e2 : d3 = s.drawn := mv.drawn
        have e3 : os3 = s.os := mv.os
        subst e1; subst e2; subst e3
        refine wpAny_pure (show wpAny _ _ (ret Value.none) _ _ _ from wpAny_pure ⟨rfl, h3, t3, rfl, hS, fun b o e => ?_⟩)
        have bl : b < s.heap.objs.size := Heap.lt_size e
        refine mv.heap b o ?_ (Heap.get?_push_of_some _ (Heap.get?_push_of_some _ e))
        rw [sz]; simp only [List.mem_cons, List.not_mem_nil, or_false, not_or]
        exact ⟨Nat.ne_of_lt bl, Nat.ne_of_lt (Nat.lt_succ_of_lt bl)⟩
    · match r2, hr2 with
      | .error e, hr2 => exact hr2
      | .ok .next, hr2 => exact hr2.elim
      | .ok .brk, hr2 => exact hr2.elim
      | .ok .cont, hr2 => exact hr2.elim
      | .ok (.ret u), hr2 =>
        obtain ⟨rfl, h', tk, rfl, hS, hk⟩ := hr2
        repeat any_goals first | wp_step | assumption
        exact h _ _ hS hk
end
/-! len(set(xs)), xs a list of texts -/
section
variable {g : G} {k : Nat} {ρ : Rho} {a : Expr} {pos p p2 q : Pos} {Q : Rho → D → Prop}
theorem g_lenSet (ct : Ct g.X k) (bl : Blt g.X "len" (.builtin "len")) (bs : Blt g.X "set" (.type "set")) (h : GoV g a ρ fun ρ1 d => ∃ xs : List Str, d = .lst (xs.map .str) ∧ xs.length < 1000 ∧ Q ρ1 (.int ((uniq xs).length : Nat)))
    (na : starEach [a] g.X.env = (false, eval a g.X.env) :: starEach [] g.X.env := by rfl) : GoV g (.Call (.Name "len" p) [.Call (.Name "set" p2) [a] [] q] [] pos) ρ Q := fun σ H0 H1 S T Qv kk pins s I => by
  refine Call_ (ld_blt I bl.hg bl.hm boot_len (callWith_builtin1 (args_cons (Call_ (ld_blt I bs.hg bs.hm boot_set (callWith_type1 (args_cons ?_ na) na rfl))) rfl) rfl rfl))
  refine thn (pX.run pins s σ H1 _ I (h σ H0 H1 S T (fun v H => ∃ H0' ρ1, Step σ ρ H0 H1 σ ρ1 H0' H ∧ Sat g.X.K H0' H σ ρ1 ∧ ∃ xs : List Str, Rep g.X.K H0' v (.lst (xs.map .str)) ∧ xs.length < 1000 ∧ Q ρ1 (.int ((uniq xs).length : Nat))) fun v H0' H1' ρ1 d st S1 r ⟨xs, e, hz, q⟩ => ⟨H0', ρ1, st, S1, xs, e ▸ r, hz, q⟩)) fun u s1 ⟨v, H2, I2, rv, H0', ρ1, st, S1, xs, rr, hz, qq⟩ => args_nil ?_
  obtain ⟨pp, vs, rfl, hp, rs⟩ := rr
  cases rv
  obtain ⟨its, rv2, pl, _⟩ := I2.list (SqL.of (S1.sub _ _ hp))
  have vals : ∀ (xs : List Str) (vs : List V), Reps g.X.K H0' vs (xs.map .str) → vs = xs.map V.str := by
    intro xs
    induction xs with
    | nil => intro vs h; exact h
    | cons x r ih =>
      rintro vs ⟨v, ws, rfl, h1, h2⟩
      cases (show v = _ from h1)
      rw [ih ws h2]; rfl
  rw [vals xs vs rs] at rv2
  refine call_setS (I2.ok.hd ct.calm) pl.isList (by simpa using strsAre_of rv2) (by unfold scanBound; omega) fun h' tk hS hk => ?_
  refine args_nil ?_
  obtain ⟨o, es, ep, t, ho, hex, hd, _, _, _, hf, hn⟩ := hS
  have I3 : L2.Inv g.X pins σ H2 { s1 with heap := h', toks := tk } := I2.kept fun b o e => hk b o e
  have le := uniq_le xs
  refine call_len_set ho hex hd hf (by rw [hn]; omega) ?_
  rw [hn]
  exact ⟨.int (uniq xs).length, H2, I3.tok _, ⟨_, rfl⟩, kk _ H0' H2 ρ1 _ st S1 rep_int qq⟩
end
end FW

set_option Elab.async false
set_option linter.all false
set_option maxRecDepth 100000
set_option maxHeartbeats 4000000
namespace FW
open PySem PySem.Spec PyProof.Rows L2
open PySem.W (AllAlike Sortable EachIs dataLe)

/-! ### data as the kit's data -/
mutual
def toP : D → PyData
  | .non => .none
  | .bl b => .bool b
  | .int i => .int i
  | .str s => .str s
  | .tup ds => .tuple (toPs ds)
  | .lst ds => .list (toPs ds)
  | .rdl ds => .list (toPs ds)
  | .ref _ => .none
  | .ty _ => .none
  | .dic _ _ => .none
  | .fdc _ _ => .none
  | .exc _ => .none
def toPs : List D → List PyData
  | [] => []
  | d :: ds => toP d :: toPs ds
end
mutual
/-- plain: nothing but none, bools, ints, texts, tuples, lists -/
def pd : D → Bool
  | .non => true
  | .bl _ => true
  | .int _ => true
  | .str s => PyData.canLay0 (.str s)
  | .tup ds => pds ds
  | .lst ds => pds ds
  | .rdl ds => pds ds
  | _ => false
def pds : List D → Bool
  | [] => true
  | d :: ds => pd d && pds ds
end
theorem toPs_map : ∀ ds : List D, toPs ds = ds.map toP
  | [] => rfl
  | d :: ds => by rw [toPs, toPs_map ds]; rfl
theorem pds_all {ds : List D} : pds ds = true ↔ ∀ d ∈ ds, pd d = true := by
  induction ds with
  | nil => simp [pds]
  | cons d ds ih => simp [pds, ih]
mutual
theorem toP_lay : ∀ d : D, pd d = true → (toP d).canLay0 = true
  | .non, _ => by simp [toP, PyData.canLay0]
  | .bl _, _ => by simp [toP, PyData.canLay0]
  | .int _, _ => by simp [toP, PyData.canLay0]
  | .str _, h => by simpa [toP, pd] using h
  | .tup ds, h => by simpa [toP, PyData.canLay0] using toPs_lay ds h
  | .lst ds, h => by simpa [toP, PyData.canLay0] using toPs_lay ds h
  | .rdl ds, h => by simpa [toP, PyData.canLay0] using toPs_lay ds h
  | .ref _, h => by cases h
  | .ty _, h => by cases h
  | .dic _ _, h => by cases h
  | .fdc _ _, h => by cases h
  | .exc _, h => by cases h
theorem toPs_lay : ∀ ds : List D, pds ds = true → PyData.canLayAll0 (toPs ds) = true
  | [], _ => by simp [toPs, PyData.canLayAll0]
  | d :: ds, h => by
    have h' : pd d = true ∧ pds ds = true := by simpa [pds] using h
    simp [toPs, PyData.canLayAll0, toP_lay d h'.1, toPs_lay ds h'.2]
end
section
variable {K : PySem.W.Frag} {H0 H : Hp}
mutual
theorem rep_dp (e : Same H0 H) : ∀ (d : D) (v : V), pd d = true → Rep K H0 v d → Dp K H v (toP d)
  | .non, v, _, r => by cases (show v = _ from r); exact .non
  | .bl b, v, _, r => by cases (show v = _ from r); exact .bl b
  | .int i, v, _, r => by cases (show v = _ from r); exact .int i
  | .str i, v, _, r => by cases (show v = _ from r); exact .str i
  | .tup ds, v, h, ⟨a, vs, e1, e2, e3⟩ => by subst e1; exact .tup (Same.tup e e2) (reps_dp e ds vs h e3)
  | .lst ds, v, h, ⟨a, vs, e1, e2, e3⟩ => by subst e1; exact .lst (SqL.of (e _ _ e2)) (reps_dp e ds vs h e3)
  | .rdl ds, v, h, ⟨a, vs, e1, e2, e3⟩ => by subst e1; exact .lst (L2.Same.seq e e2) (reps_dp e ds vs h e3)
  | .ref _, _, h, _ => by cases h
  | .ty _, _, h, _ => by cases h
  | .dic _ _, _, h, _ => by cases h
  | .fdc _ _, _, h, _ => by cases h
  | .exc _, _, h, _ => by cases h
theorem reps_dp (e : Same H0 H) : ∀ (ds : List D) (vs : List V), pds ds = true → Reps K H0 vs ds → DpAll K H vs (toPs ds)
  | [], vs, _, r => by cases (show vs = _ from r); exact .nil
  | d :: ds, _, h, ⟨v, rr, e1, e2, e3⟩ => by
    have h' : pd d = true ∧ pds ds = true := by simpa [pds] using h
    subst e1
    exact .cons (rep_dp e d v h'.1 e2) (reps_dp e ds rr h'.2 e3)
end
end
mutual
/-- ints, texts, none, tuples and lists: == is sameness -/
def cl : D → Bool
  | .non => true
  | .int _ => true
  | .str _ => true
  | .tup ds => cls ds
  | .lst ds => cls ds
  | _ => false
def cls : List D → Bool
  | [] => true
  | d :: ds => cl d && cls ds
end
mutual
theorem eqv_iff : ∀ (a b : D), cl a = true → cl b = true → (PyData.eqv (toP a) (toP b) = true ↔ a = b)
  | .non, b, _, hb => by cases b <;> simp_all [toP, PyData.eqv, cl]
  | .int i, b, _, hb => by cases b <;> simp_all [toP, PyData.eqv, cl]
  | .str i, b, _, hb => by cases b <;> simp_all [toP, PyData.eqv, cl]
  | .tup xs, b, ha, hb => by
    cases b with
    | tup ys =>
      have := eqvs_iff xs ys (by simpa [cl] using ha) (by simpa [cl] using hb)
      simpa [toP, PyData.eqv] using this
    | _ => simp_all [toP, PyData.eqv, cl]
  | .lst xs, b, ha, hb => by
    cases b with
    | lst ys =>
      have := eqvs_iff xs ys (by simpa [cl] using ha) (by simpa [cl] using hb)
      simpa [toP, PyData.eqv] using this
    | _ => simp_all [toP, PyData.eqv, cl]
  | .bl _, _, h, _ => by cases h
  | .rdl _, _, h, _ => by cases h
  | .ref _, _, h, _ => by cases h
  | .ty _, _, h, _ => by cases h
  | .dic _ _, _, h, _ => by cases h
  | .fdc _ _, _, h, _ => by cases h
  | .exc _, _, h, _ => by cases h
theorem eqvs_iff : ∀ (a b : List D), cls a = true → cls b = true → (PyData.eqvAll (toPs a) (toPs b) = true ↔ a = b)
  | [], [], _, _ => by simp [toPs, PyData.eqvAll]
  | [], _ :: _, _, _ => by simp [toPs, PyData.eqvAll]
  | _ :: _, [], _, _ => by simp [toPs, PyData.eqvAll]
  | x :: xs, y :: ys, ha, hb => by
    have ha' : cl x = true ∧ cls xs = true := by simpa [cls] using ha
    have hb' : cl y = true ∧ cls ys = true := by simpa [cls] using hb
    have h1 := eqv_iff x y ha'.1 hb'.1
    have h2 := eqvs_iff xs ys ha'.2 hb'.2
    simp [toPs, PyData.eqvAll, h1, h2]
end
theorem cls_all {ds : List D} : cls ds = true ↔ ∀ d ∈ ds, cl d = true := by
  induction ds with
  | nil => simp [cls]
  | cons d ds ih => simp [cls, ih]
/-- comparable by ==: plain and not too deep -/
def cmpD (d : D) : Prop := pd d = true ∧ (toP d).depth ≤ 64
theorem cmpD.shaped {d : D} (h : cmpD d) : SeqAt.shaped (toP d) = true := by
  unfold SeqAt.shaped
  rw [toP_lay d h.1, Bool.true_and]
  exact decide_eq_true h.2
def eqP (a b : D) : Bool := PyData.eqv (toP a) (toP b)

section
variable {g : G} {k : Nat} {ρ : Rho} {a b c e : Expr} {es : List Expr} {pos p p2 apos : Pos} {j i : Nat} {x : Str} {Q : Rho → D → Prop} {R : Rho → Bool → Prop}
theorem Room.u {k : Nat} {A : Around} (r : Room k A) : A.units + 200 < cLine := by have := r.un; omega
/-! ### == and != of data -/
theorem rv_eqP {m n : D} (h1 : cmpD m) (h2 : cmpD n) (q : Q ρ (.bl (eqP m n))) : RV g (rEqD g.X.K) m n ρ Q := fun σ H0 H1 S T v u r1 r2 Qv kk =>
  ⟨toP m, toP n, rep_dp S.sub _ _ h1.1 r1, rep_dp S.sub _ _ h2.1 r2, h1.shaped, h2.shaped, kk _ _ _ _ _ Step.refl S rep_bl q⟩
theorem rv_neP {m n : D} (h1 : cmpD m) (h2 : cmpD n) (q : Q ρ (.bl (!eqP m n))) : RV g (rNeD g.X.K) m n ρ Q := fun σ H0 H1 S T v u r1 r2 Qv kk =>
  ⟨toP m, toP n, rep_dp S.sub _ _ h1.1 r1, rep_dp S.sub _ _ h2.1 r2, h1.shaped, h2.shaped, kk _ _ _ _ _ Step.refl S rep_bl q⟩
theorem t_eqP (ct : Ct g.X k) (h : GoV g a ρ fun ρ1 x => GoV g b ρ1 fun ρ2 y => cmpD x ∧ cmpD y ∧ R ρ2 (eqP x y)) : GoT g (.Compare a [.Eq] [b] pos) ρ R :=
  c_test (op_eqD (by have := Room.u ct.room; omega)) (h.imp fun r d h' => h'.imp fun r' d' ⟨s1, s2, q⟩ => rv_eqP s1 s2 ⟨_, rfl, q⟩) (nomark _)
theorem t_neP (ct : Ct g.X k) (h : GoV g a ρ fun ρ1 x => GoV g b ρ1 fun ρ2 y => cmpD x ∧ cmpD y ∧ R ρ2 (!eqP x y)) : GoT g (.Compare a [.NotEq] [b] pos) ρ R :=
  c_test (op_neD (by have := Room.u ct.room; omega)) (h.imp fun r d h' => h'.imp fun r' d' ⟨s1, s2, q⟩ => rv_neP s1 s2 ⟨_, rfl, q⟩) (nomark _)
theorem g_eqP (ct : Ct g.X k) (h : GoV g a ρ fun ρ1 x => GoV g b ρ1 fun ρ2 y => cmpD x ∧ cmpD y ∧ Q ρ2 (.bl (eqP x y))) : GoV g (.Compare a [.Eq] [b] pos) ρ Q :=
  c_val (op_eqD (by have := Room.u ct.room; omega)) (h.imp fun r d h' => h'.imp fun r' d' ⟨s1, s2, q⟩ => rv_eqP s1 s2 q) (nomark _)
theorem g_neP (ct : Ct g.X k) (h : GoV g a ρ fun ρ1 x => GoV g b ρ1 fun ρ2 y => cmpD x ∧ cmpD y ∧ Q ρ2 (.bl (!eqP x y))) : GoV g (.Compare a [.NotEq] [b] pos) ρ Q :=
  c_val (op_neD (by have := Room.u ct.room; omega)) (h.imp fun r d h' => h'.imp fun r' d' ⟨s1, s2, q⟩ => rv_neP s1 s2 q) (nomark _)
/-! ### chains of ints -/
theorem g_chain2 (h : GoV g a ρ fun ρ1 x => GoV g b ρ1 fun ρ2 y => ∃ m n, x = .int m ∧ y = .int n ∧ (m ≤ n → GoV g c ρ2 fun ρ3 z => ∃ o, z = .int o ∧ Q ρ3 (.bl (decide (n ≤ o)))) ∧ (¬ m ≤ n → Q ρ2 (.bl false)))
    (hm : lastMarks [.LtE, .LtE] [b, c] = false := by with_unfolding_all rfl) : GoV g (.Compare a [.LtE, .LtE] [b, c] pos) ρ Q :=
  v_of (pe_chain op_le op_le pX pX pX hm) fun σ H0 H1 S T Qv kk => h σ H0 H1 S T _ fun v H01 H11 ρ1 x s1 S1 r1 q1 => q1 σ H01 H11 S1 (T.step s1) _ fun u H02 H12 ρ2 y s2 S2 r2 ⟨m, n, e1, e2, q2, q3⟩ => by
    subst e1; subst e2
    cases (show v = _ from r1); cases (show u = _ from r2)
    refine ⟨m, n, rfl, rfl, _, rfl, ?_⟩
    by_cases z : m ≤ n
    · rw [decide_eq_true z, if_pos rfl]
      refine q2 z σ H02 H12 S2 ((T.step s1).step s2) _ fun w H03 H13 ρ3 zz s3 S3 r3 ⟨o, e3, q⟩ => ?_
      subst e3
      cases (show w = _ from r3)
      exact ⟨n, o, rfl, rfl, kk _ _ _ _ _ ((s1.trans s2).trans s3) S3 rep_bl q⟩
    · rw [decide_eq_false z, if_neg (by simp)]
      exact kk _ _ _ _ _ (s1.trans s2) S2 rep_bl (q3 z)
theorem t_chain2 (h : GoV g a ρ fun ρ1 x => GoV g b ρ1 fun ρ2 y => ∃ m n, x = .int m ∧ y = .int n ∧ (m ≤ n → GoV g c ρ2 fun ρ3 z => ∃ o, z = .int o ∧ R ρ3 (decide (n ≤ o))) ∧ (¬ m ≤ n → R ρ2 false))
    (hm : lastMarks [.LtE, .LtE] [b, c] = false := by with_unfolding_all rfl) : GoT g (.Compare a [.LtE, .LtE] [b, c] pos) ρ R :=
  t_of (pt_chain op_le op_le pX pX pX hm) (wt_test fun σ H0 H1 S T Qv kk => h σ H0 H1 S T _ fun v H01 H11 ρ1 x s1 S1 r1 q1 => q1 σ H01 H11 S1 (T.step s1) _ fun u H02 H12 ρ2 y s2 S2 r2 ⟨m, n, e1, e2, q2, q3⟩ => by
    subst e1; subst e2
    cases (show v = _ from r1); cases (show u = _ from r2)
    refine ⟨m, n, rfl, rfl, _, rfl, ?_⟩
    by_cases z : m ≤ n
    · rw [decide_eq_true z, if_pos rfl]
      refine q2 z σ H02 H12 S2 ((T.step s1).step s2) _ fun w H03 H13 ρ3 zz s3 S3 r3 ⟨o, e3, q⟩ => ?_
      subst e3
      cases (show w = _ from r3)
      exact ⟨n, o, rfl, rfl, kk _ _ _ _ _ ((s1.trans s2).trans s3) S3 rep_bl ⟨_, rfl, q⟩⟩
    · rw [decide_eq_false z, if_neg (by simp)]
      exact kk _ _ _ _ _ (s1.trans s2) S2 rep_bl ⟨_, rfl, q3 z⟩)
/-! ### in, not in: scalars of one kind -/
theorem sc_flat {K : PySem.W.Frag} {H : Hp} {v u : V} {m n : D} (h : sc m n = true) (h1 : Rep K H v m) (h2 : Rep K H u n) : flatV v = true ∧ flatV u = true ∧ eqV u v = eqS m n := by
  unfold sc at h
  split at h
  · cases (show v = _ from h1); cases (show u = _ from h2)
    exact ⟨rfl, rfl, by simp [eqV, eqS, eq_comm, Bool.beq_eq_decide_eq]⟩
  · cases (show v = _ from h1); cases (show u = _ from h2)
    exact ⟨rfl, rfl, by simp [eqV, eqS, eq_comm, Bool.beq_eq_decide_eq]⟩
  · cases (show v = _ from h1); cases (show u = _ from h2)
    exact ⟨rfl, rfl, by simp [eqV, eqS, eq_comm, Bool.beq_eq_decide_eq]⟩
  · cases (show v = _ from h1); cases (show u = _ from h2)
    exact ⟨rfl, rfl, rfl⟩
  · cases h
def inS (x : D) (xs : List D) : Bool := xs.any fun y => eqS x y
theorem sc_in {K : PySem.W.Frag} {H : Hp} {v : V} {m : D} (h1 : Rep K H v m) : ∀ (ds : List D) (vs : List V), (∀ d ∈ ds, sc m d = true) → Reps K H vs ds → vs.all flatV = true ∧ inV v vs = inS m ds
  | [], vs, _, r => by cases (show vs = _ from r); exact ⟨rfl, rfl⟩
  | d :: ds, _, h, ⟨u, rr, e1, e2, e3⟩ => by
    subst e1
    obtain ⟨a1, a2, a3⟩ := sc_flat (h d (List.mem_cons_self ..)) h1 e2
    obtain ⟨b1, b2⟩ := sc_in h1 ds rr (fun d' q => h d' (List.mem_cons_of_mem _ q)) e3
    refine ⟨by rw [List.all_cons, a2, b1]; rfl, ?_⟩
    show (_ :: rr).any _ = (_ :: ds).any _
    rw [List.any_cons, List.any_cons, a3]
    exact congrArg (eqS m d || ·) b2
theorem seq_at {K : PySem.W.Frag} {H0 H1 : Hp} {v : V} {d : D} {ds : List D} (e : Same H0 H1) (h : seqD d = some ds) (r : Rep K H0 v d) : ∃ p vs, v = .ref p ∧ (SqL K H1 p vs ∨ SqT K H1 p vs) ∧ Reps K H0 vs ds := by
  cases d with
  | tup es => cases h; obtain ⟨p, vs, e1, e2, e3⟩ := r; exact ⟨p, vs, e1, .inr (Same.tup e e2), e3⟩
  | lst es => cases h; obtain ⟨p, vs, e1, e2, e3⟩ := r; exact ⟨p, vs, e1, .inl (SqL.of (e _ _ e2)), e3⟩
  | rdl es => cases h; obtain ⟨p, vs, e1, e2, e3⟩ := r; exact ⟨p, vs, e1, .inl (L2.Same.seq e e2), e3⟩
  | _ => cases h
theorem head_flat {K : PySem.W.Frag} {H : Hp} {v : V} {m : D} (r : Rep K H v m) (h : sc m m = true) : flatV v = true := (sc_flat h r r).1
theorem rv_in {neg : Bool} {m n : D} {ds : List D} (h0 : sc m m = true) (h1 : seqD n = some ds) (h2 : ∀ d ∈ ds, sc m d = true) (q : Q ρ (.bl (if neg then !inS m ds else inS m ds))) : RV g (rIn g.X.K neg) m n ρ Q := fun σ H0 H1 S T v u r1 r2 Qv kk => by
  obtain ⟨p, vs, e1, e2, e3⟩ := seq_at S.sub h1 r2
  obtain ⟨f, z⟩ := sc_in r1 ds vs h2 e3
  refine ⟨p, vs, e1, e2, head_flat r1 h0, f, ?_⟩
  rw [z]
  exact kk _ _ _ _ _ Step.refl S rep_bl q
theorem t_in (h : GoV g a ρ fun ρ1 x => GoV g b ρ1 fun ρ2 y => ∃ ds, sc x x = true ∧ seqD y = some ds ∧ (∀ d ∈ ds, sc x d = true) ∧ R ρ2 (inS x ds)) (hm : behindInMarks .In b = false := by rfl) : GoT g (.Compare a [.In] [b] pos) ρ R :=
  c_test op_in_seq (h.imp fun r d h' => h'.imp fun r' d' ⟨ds, s1, s2, s3, q⟩ => rv_in s1 s2 s3 ⟨_, rfl, q⟩) hm
theorem t_nin (h : GoV g a ρ fun ρ1 x => GoV g b ρ1 fun ρ2 y => ∃ ds, sc x x = true ∧ seqD y = some ds ∧ (∀ d ∈ ds, sc x d = true) ∧ R ρ2 (!inS x ds)) (hm : behindInMarks .NotIn b = false := by rfl) : GoT g (.Compare a [.NotIn] [b] pos) ρ R :=
  c_test op_notIn_seq (h.imp fun r d h' => h'.imp fun r' d' ⟨ds, s1, s2, s3, q⟩ => rv_in s1 s2 s3 ⟨_, rfl, q⟩) hm
/-- one sign in a text -/
theorem g_inSign (h : GoV g a ρ fun ρ1 x => GoV g b ρ1 fun ρ2 y => ∃ (c : Nat) (z : Str), x = .str ⟨#[c]⟩ ∧ y = .str z ∧ Q ρ2 (.bl (decide (c ∈ z.cps.toList)))) (hm : behindInMarks .In b = false := by rfl) : GoV g (.Compare a [.In] [b] pos) ρ Q :=
  c_val op_in_sign (h.imp fun r d h' => h'.imp fun r' d' ⟨c, z, e1, e2, q⟩ => by
    subst e1; subst e2
    exact fun σ H0 H1 S T v u r1 r2 Qv kk => ⟨c, z, r1, r2, kk _ _ _ _ _ Step.refl S rep_bl q⟩) hm
theorem t_ninSign (h : GoV g a ρ fun ρ1 x => GoV g b ρ1 fun ρ2 y => ∃ (c : Nat) (z : Str), x = .str ⟨#[c]⟩ ∧ y = .str z ∧ R ρ2 (!decide (c ∈ z.cps.toList))) (hm : behindInMarks .NotIn b = false := by rfl) : GoT g (.Compare a [.NotIn] [b] pos) ρ R :=
  c_test op_notIn_sign (h.imp fun r d h' => h'.imp fun r' d' ⟨c, z, e1, e2, q⟩ => by
    subst e1; subst e2
    exact fun σ H0 H1 S T v u r1 r2 Qv kk => ⟨c, z, r1, r2, kk _ _ _ _ _ Step.refl S rep_bl ⟨_, rfl, q⟩⟩) hm
/-! ### all of a list of bools -/
theorem reps_bls {K : PySem.W.Frag} {H : Hp} : ∀ (bs : List Bool) (vs : List V), Reps K H vs (bs.map .bl) → vs = bs.map V.bl
  | [], _, h => h
  | b :: bs, _, ⟨v, r, e1, e2, e3⟩ => by
    subst e1
    cases (show v = _ from e2)
    rw [reps_bls bs r e3]; rfl
theorem g_all (hc : g.X.calm = true) (s : Blt g.X x (.builtin "all")) (h : GoV g e ρ fun ρ1 d => ∃ bs : List Bool, d = .lst (bs.map .bl) ∧ Q ρ1 (.bl (bs.all id)))
    (he : starEach (e :: []) g.X.env = (false, eval e g.X.env) :: starEach [] g.X.env := by rfl) (hpl : (backTo pos (starEach [] g.X.env)).any (·.1) = false := by rfl) : GoV g (.Call (.Name x p) [e] [] pos) ρ Q :=
  g_callB (cr_all hc) s (a_cons (h.imp fun r d ⟨bs, e1, q⟩ => a_nil (by
    intro σ H0 H1 S T vs hv Qv kk
    obtain ⟨v, rr, e2, r1, r2⟩ := hv
    subst e2; subst e1
    cases (show rr = [] from r2)
    obtain ⟨pp, vs, rfl, hp, rs⟩ := r1
    exact ⟨pp, bs, rfl, SqL.of (by rw [← reps_bls bs vs rs]; exact S.sub _ _ hp), kk _ _ _ _ _ Step.refl S rep_bl q⟩)) he) he hpl
/-! ### sorted -/
def rSrt (K : PySem.W.Frag) : List V → Hp → VK → Prop := fun vs H Q => ∃ (a : Addr) (bs : List (V × D)), vs = [V.ref a] ∧ SqL K H a (bs.map (·.1)) ∧ (∀ b ∈ bs, Dp K H b.1 (toP b.2)) ∧
  AllAlike (bs.map fun b => toP b.2) ∧ Sortable (bs.map fun b => toP b.2) ∧ bs.length ≤ 100000 ∧ (∀ b ∈ bs, (toP b.2).depth ≤ 60) ∧
  ∀ l : Addr, H l = none → Q (.ref l) (upd H l (.lst ((bs.mergeSort (dataLe false fun b => toP b.2)).map (·.1))))
theorem each_vals {bs : List (V × D)} : ∀ {us : List Value}, EachIs (fun (v : Value) (b : V × D) => RelV b.1 v) us bs → Vals (bs.map (·.1)) us := by
  induction bs with
  | nil => intro us h; cases h; exact .nil
  | cons b bs ih => intro us h; cases h with | cons h1 h2 => exact .cons h1 (ih h2)
theorem vals_each : ∀ {bs : List (V × D)} {us : List Value}, Vals (bs.map (·.1)) us → EachIs (fun (v : Value) (b : V × D) => RelV b.1 v) us bs
  | [], us, h => by
    have h' : Vals [] us := h
    cases h'
    exact .nil
  | b :: bs, us, h => by
    have h' : Vals (b.1 :: bs.map (·.1)) us := h
    cases h' with
    | cons h1 h2 => exact .cons h1 (vals_each h2)
theorem each_both {α β : Type} {R P : α → β → Prop} : ∀ {as : List α} {bs : List β}, EachIs R as bs → (∀ b ∈ bs, ∀ a, R a b → P a b) → EachIs P as bs
  | _, _, .nil, _ => .nil
  | _, _, .cons h t, q => .cons (q _ (List.mem_cons_self ..) _ h) (each_both t fun b hb a => q b (List.mem_cons_of_mem _ hb) a)
theorem call_srt {X : Cx} {k : Nat} (ct : Room k X.A) : CallR X (.builtin "sorted") (rSrt X.K) := by
  intro pins s σ H vs us Q I r h
  obtain ⟨a, bs, rfl, hs, hd, hal, hk, hl, hdep, q⟩ := h
  obtain ⟨its, rv, pl, _⟩ := I.list hs
  rw [Vals.ref1 r]
  have e := vals_each rv
  have hz : bs.length ≤ sizeLine := Nat.le_trans hl (by decide)
  refine PySem.W.sorted_data (enc := fun b : V × D => toP b.2) pl.isList e (each_both e fun b hb v rr => Dp.reads I _ _ _ (hd b hb) rr) hal hk hz (fun b hb => ?_) fun out ho eo => ?_
  · have h1 := hdep b hb
    have h2 := Room.u ct
    show X.A.units + 2 + (toP b.2).depth < cLine
    omega
  · obtain ⟨ep, he'⟩ := PyProof.Rows.sortedAll_at s.heap its out.toArray
    have hlen : ((bs.mergeSort (dataLe false fun b => toP b.2)).map (·.1)).length ≤ sizeLine := by rw [List.length_map, List.length_mergeSort]; exact hz
    exact ⟨.ref _, upd H (s.heap.objs.size + 1) (.lst ((bs.mergeSort (dataLe false fun b => toP b.2)).map (·.1))), I.laid (t' := s.toks) (fun _ _ => PyProof.Rows.sortedAll_old) (Nat.le_succ _) ⟨hlen, out, ep, each_vals eo, by simpa using he'⟩, rfl, q _ (I.hok.fresh (Nat.le_succ _))⟩
/-- what sorted gives -/
def srt (ds : List D) : List D := ds.mergeSort (dataLe false toP)
theorem srt_perm (ds : List D) : (srt ds).Perm ds := List.mergeSort_perm _ _
/-- a list that sorted may take -/
structure SrtOk (ds : List D) : Prop where
  pl : pds ds = true
  al : AllAlike (ds.map toP)
  so : Sortable (ds.map toP)
  le : ds.length ≤ 100000
  dp : ∀ d ∈ ds, (toP d).depth ≤ 60
theorem reps_zip {K : PySem.W.Frag} {H : Hp} : ∀ {ds : List D} {vs : List V}, Reps K H vs ds → ∃ bs : List (V × D), bs.map (·.1) = vs ∧ bs.map (·.2) = ds ∧ ∀ b ∈ bs, Rep K H b.1 b.2
  | [], vs, h => by cases (show vs = _ from h); exact ⟨[], rfl, rfl, by simp⟩
  | d :: ds, _, ⟨v, r, e1, e2, e3⟩ => by
    subst e1
    obtain ⟨bs, b1, b2, b3⟩ := reps_zip e3
    exact ⟨(v, d) :: bs, by simp [b1], by simp [b2], fun b hb => (List.mem_cons.mp hb).elim (fun z => z ▸ e2) (b3 b)⟩
theorem zip_reps {K : PySem.W.Frag} {H : Hp} : ∀ (bs : List (V × D)), (∀ b ∈ bs, Rep K H b.1 b.2) → Reps K H (bs.map (·.1)) (bs.map (·.2))
  | [], _ => rfl
  | b :: bs, h => ⟨b.1, bs.map (·.1), rfl, h b (List.mem_cons_self ..), zip_reps bs fun c hc => h c (List.mem_cons_of_mem _ hc)⟩
theorem g_sorted {Q : Rho → A → Prop} (ct : Ct g.X k) (s : Blt g.X x (.builtin "sorted")) (h : GoV g e ρ fun ρ1 d => ∃ ds, d = .lst ds ∧ SrtOk ds ∧ Q ρ1 (.own false (.lst (srt ds))))
    (he : starEach (e :: []) g.X.env = (false, eval e g.X.env) :: starEach [] g.X.env := by rfl) (hpl : (backTo pos (starEach [] g.X.env)).any (·.1) = false := by rfl) : GoE g (.Call (.Name x p) [e] [] pos) ρ Q :=
  e_callB (call_srt ct.room) s (a_cons (h.imp fun r d ⟨ds, e1, ok, q⟩ => a_nil (by
    intro σ H0 H1 S T vs hv Qv kk
    obtain ⟨v, rr, e2, r1, r2⟩ := hv
    subst e2; subst e1
    cases (show rr = [] from r2)
    obtain ⟨pp, vs, rfl, hp, rs⟩ := r1
    obtain ⟨bs, b1, b2, b3⟩ := reps_zip rs
    have bm : (bs.map fun b => toP b.2) = ds.map toP := by rw [← b2, List.map_map]; rfl
    refine ⟨pp, bs, rfl, SqL.of (by rw [b1]; exact S.sub _ _ hp), fun b hb => rep_dp S.sub _ _ (pds_all.mp ok.pl _ (by rw [← b2]; exact List.mem_map_of_mem hb)) (b3 b hb), by rw [bm]; exact ok.al, by rw [bm]; exact ok.so,
      by rw [show bs.length = ds.length from by rw [← b2, List.length_map]]; exact ok.le, fun b hb => ok.dp _ (by rw [← b2]; exact List.mem_map_of_mem hb), fun l hl => ?_⟩
    obtain ⟨S4, s4, h0, hc⟩ := sat_mine (u := .lst ((bs.mergeSort (dataLe false fun b => toP b.2)).map (·.1))) S hl
    refine kk _ _ _ r _ s4 S4 (res_lst h0 hl hc upd_same ?_) q
    have hm : srt ds = (bs.mergeSort (dataLe false fun b => toP b.2)).map (·.2) := by
      rw [srt, ← b2]
      exact (PySem.W.sort_maps (fun b : V × D => b.2) fun a _ b _ => rfl).symm
    rw [hm]
    exact zip_reps _ fun b hb => b3 b ((List.mergeSort_perm _ _).mem_iff.mp hb))) he) he hpl
end
end FW

set_option Elab.async false
set_option linter.all false
set_option maxRecDepth 100000
set_option maxHeartbeats 4000000
/-! FW: dicts with texts as keys -/
namespace FW
open PySem PySem.Spec PyProof.Rows L2

/-- what a dict holds at a key -/
def dG : List Str → List D → Str → Option D
  | k :: ks, x :: xs, s => if k = s then some x else dG ks xs s
  | _, _, _ => none
theorem dG_rep {K : PySem.W.Frag} {H : Hp} (s : Str) : ∀ (ks : List Str) (ds : List D) (ws : List (Key × V)), ws.map (·.1) = ks.map Sum.inr → Reps K H (ws.map (·.2)) ds →
    (dG ks ds s = none ∧ valV ws (Sum.inr s) = none) ∨ ∃ d v, dG ks ds s = some d ∧ valV ws (Sum.inr s) = some v ∧ Rep K H v d
  | [], ds, [], _, _ => .inl ⟨by unfold dG; rfl, valV_nil⟩
  | [], ds, _ :: _, h, _ => by cases h
  | _ :: _, ds, [], h, _ => by cases h
  | k :: ks, ds, w :: ws, h, r => by
    have h' := List.cons.inj h
    cases ds with
    | nil => cases (show w.2 :: ws.map (·.2) = [] from r)
    | cons d ds =>
      obtain ⟨v, rr, e1, e2, e3⟩ := r
      obtain ⟨e4, e5⟩ := List.cons.inj (show w.2 :: ws.map (·.2) = v :: rr from e1)
      subst e4; subst e5
      by_cases z : k = s
      · exact .inr ⟨d, w.2, by rw [dG, if_pos z], valV_pos (h'.1.trans (by rw [z])), e2⟩
      · have n : ¬ w.1 = Sum.inr s := fun q => z (Sum.inr.inj (((show w.1 = _ from h'.1).symm).trans q))
        rw [dG, if_neg z, valV_neg n]
        exact dG_rep s ks ds ws h'.2 e3
/-- a dict, locked or not -/
def dicD : D → Option (List Str × List D)
  | .dic ks xs => some (ks, xs)
  | .fdc ks xs => some (ks, xs)
  | _ => none
theorem dicD_rep {K : PySem.W.Frag} {H : Hp} {v : V} {d : D} {ks : List Str} {xs : List D} (e : dicD d = some (ks, xs)) (r : Rep K H v d) : Rep K H v (.dic ks xs) := by
  cases d with
  | dic _ _ => cases e; exact r
  | fdc _ _ => cases e; obtain ⟨a, o, ws, h1, h2, h3, h4⟩ := r; exact ⟨a, ws, h1, .inr ⟨o, h2⟩, h3, h4⟩
  | _ => cases e
theorem dget_rep {K : PySem.W.Frag} {H0 H : Hp} {v : V} {ks : List Str} {ds : List D} {s : Str} (e : Same H0 H) (r : Rep K H0 v (.dic ks ds)) : ∃ a, v = .ref a ∧ IsD H a ∧
    ((dG ks ds s = none ∧ DGet H a (.str s) none) ∨ ∃ d u, dG ks ds s = some d ∧ DGet H a (.str s) (some u) ∧ Rep K H0 u d) := by
  obtain ⟨a, ws, e1, e2, e3, e4⟩ := r
  have rd := Same.rd e e2
  refine ⟨a, e1, .inl ⟨ws, rd⟩, ?_⟩
  rcases dG_rep s ks ds ws e3 e4 with ⟨z1, z2⟩ | ⟨d, u, z1, z2, z3⟩
  · exact .inl ⟨z1, .inl ⟨ws, Sum.inr s, rd, rfl, z2.symm⟩⟩
  · exact .inr ⟨d, u, z1, .inl ⟨ws, Sum.inr s, rd, rfl, z2.symm⟩, z3⟩
section
variable {g : G} {k : Nat} {ρ : Rho} {a b c e : Expr} {es : List Expr} {pos p p2 apos : Pos} {j i : Nat} {x : Str} {Q : Rho → D → Prop} {R : Rho → Bool → Prop}
theorem res_dic {K : PySem.W.Frag} {Hb : Hp} {σ : L2.St} {ρ : Rho} {H0 H1 : Hp} {p : Addr} {ws : List (Key × V)} {ks : List Str} {ds : List D} (h0 : H0 p = none) (hb : Hb p = none) (hc : ¬ Cell σ ρ p) (h : H1 p = some (.dK ws)) (hk : ws.map (·.1) = ks.map Sum.inr) (r : Reps K H0 (ws.map (·.2)) ds) : Res K Hb σ ρ H0 H1 (.ref p) (.own false (.dic ks ds)) := ⟨p, rfl, h0, hb, hc, ws, h, hk, r⟩
theorem g_dnew {Q : Rho → A → Prop} (h : Q ρ (.own false (.dic [] []))) : GoE g (.Dict [] [] pos) ρ Q :=
  e_of pe_dnewK fun σ H0 H1 S T Qv kk pp hp => by
    obtain ⟨S2, st2, h0, hc⟩ := sat_mine (u := .dK []) S hp
    exact kk _ _ _ ρ _ st2 S2 (res_dic (ks := []) (ds := []) (ws := []) h0 hp hc upd_same rfl Reps.nil) h
/-- d[k] -/
theorem g_dix (ct : Ct g.X k) (h : GoV g a ρ fun ρ1 x => GoV g b ρ1 fun ρ2 y => ∃ ks xs s d, dicD x = some (ks, xs) ∧ y = .str s ∧ dG ks xs s = some d ∧ Q ρ2 d) (hs : NoSl b := by exact fun _ _ => rfl) : GoV g (.Subscript a b pos) ρ Q :=
  v_of (pe_dget (by have := Room.u ct.room; omega) pX pX hs) fun σ H0 H1 S T Qv kk => h σ H0 H1 S T _ fun v H01 H11 ρ1 x s1 S1 r1 q1 => q1 σ H01 H11 S1 (T.step s1) _ fun u H02 H12 ρ2 y s2 S2 r2 ⟨ks, xs, s, d, e1, e2, e3, q⟩ => by
    subst e2
    cases (show u = _ from r2)
    obtain ⟨pp, rfl, _, hh⟩ := dget_rep (s := s) S2.sub (dicD_rep e1 (Rep.mono s2.kn r1))
    rcases hh with ⟨z, _⟩ | ⟨d', w, z1, z2, z3⟩
    · rw [e3] at z; cases z
    · rw [e3] at z1
      cases z1
      exact ⟨pp, w, rfl, z2, kk _ _ _ _ _ (s1.trans s2) S2 z3 q⟩
/-- d.get(k, x) -/
theorem g_get2 {f : Expr} (ct : Ct g.X k) (h : GoV g a ρ fun ρ1 x => ∃ ks xs, dicD x = some (ks, xs) ∧ GoV g b ρ1 fun ρ2 y => GoV g f ρ2 fun ρ3 z => ∃ s, y = .str s ∧ Q ρ3 ((dG ks xs s).getD z))
    (m : M2 g.X a "get" apos b f pos := by exact ⟨rfl, rfl, rfl, rfl⟩) : GoV g (.Call (.Attribute a "get" apos) [b, f] [] pos) ρ Q :=
  v_of (pe_dget2 (by have := Room.u ct.room; omega) pX pX pX m) fun σ H0 H1 S T Qv kk => h σ H0 H1 S T _ fun v H01 H11 ρ1 x s1 S1 r1 ⟨ks, xs, e1, q1⟩ => by
    obtain ⟨pp, rfl, i1, _⟩ := dget_rep (s := "") S1.sub (dicD_rep e1 r1)
    refine ⟨pp, rfl, i1, q1 σ H01 H11 S1 (T.step s1) _ fun u H02 H12 ρ2 y s2 S2 r2 q2 => q2 σ H02 H12 S2 ((T.step s1).step s2) _ fun w H03 H13 ρ3 z s3 S3 r3 ⟨s, e2, q⟩ => ?_⟩
    subst e2
    cases (show u = _ from r2)
    obtain ⟨p', e, _, hh⟩ := dget_rep (s := s) S3.sub (dicD_rep e1 (Rep.mono s3.kn (Rep.mono s2.kn r1)))
    cases e
    rcases hh with ⟨z, z2⟩ | ⟨d', w', z1, z2, z3⟩
    · refine ⟨none, z2, kk _ _ _ _ _ ((s1.trans s2).trans s3) S3 r3 ?_⟩
      rw [z] at q; exact q
    · refine ⟨some w', z2, kk _ _ _ _ _ ((s1.trans s2).trans s3) S3 z3 ?_⟩
      rw [z1] at q; exact q
/-- rows (name, thing) -/
def prs (ps : List (Str × D)) : List D := ps.map fun p => .tup [.str p.1, p.2]
theorem prs_reps {K : PySem.W.Frag} {H0 H : Hp} (e : Same H0 H) : ∀ (ps : List (Str × D)) (vs : List V), Reps K H0 vs (prs ps) → ∃ (as : List Addr) (kvs : List (Key × V)), vs = as.map V.ref ∧ Paired (fun p kv => SqT K H p [kV kv.1, kv.2]) as kvs ∧
    kvs.map (·.1) = (ps.map (·.1)).map Sum.inr ∧ Reps K H0 (kvs.map (·.2)) (ps.map (·.2))
  | [], vs, r => by cases (show vs = _ from r); exact ⟨[], [], rfl, .nil, rfl, rfl⟩
  | q :: ps, _, ⟨v, rr, e1, e2, e3⟩ => by
    subst e1
    obtain ⟨as, kvs, z1, z2, z3, z4⟩ := prs_reps e ps rr e3
    subst z1
    obtain ⟨a, vs, e4, e5, v1, r1, e6, e7, v2, r2, e8, e9, e10⟩ := e2
    subst e4; subst e6; subst e8
    cases (show v1 = _ from e7)
    cases (show r2 = _ from e10)
    exact ⟨a :: as, (Sum.inr q.1, v2) :: kvs, rfl, .cons (Same.tup e e5) z2, by simp [z3], ⟨v2, _, rfl, e9, z4⟩⟩
theorem mergeK_new : ∀ (kvs acc : List (Key × V)), (acc.map (·.1) ++ kvs.map (·.1)).Nodup → mergeK acc kvs = acc ++ kvs
  | [], acc, _ => by simp [mergeK]
  | p :: r, acc, h => by
    have hn : valV acc p.1 = none := by
      cases hv : valV acc p.1 with
      | none => rfl
      | some v =>
        unfold valV at hv
        obtain ⟨q, q1, _⟩ := Option.map_eq_some_iff.mp hv
        have m1 := List.mem_of_find?_eq_some q1
        have m2 : q.1 = p.1 := by simpa using List.find?_some q1
        rw [List.nodup_append] at h
        exact absurd m2 (h.2.2 q.1 (List.mem_map_of_mem m1) p.1 (by simp))
    have e : mergeK acc (p :: r) = mergeK (acc ++ [p]) r := by
      show mergeK (putK acc p.1 p.2) r = _
      rw [putK_new _ hn]
    rw [e, mergeK_new r (acc ++ [p]) (by simpa using h), List.append_assoc]
    rfl
theorem inr_nodup : ∀ {ks : List Str}, ks.Nodup → (ks.map (Sum.inr : Str → Key)).Nodup
  | [], _ => by simp
  | k :: ks, h => by
    rw [List.nodup_cons] at h
    rw [List.map_cons, List.nodup_cons]
    refine ⟨fun m => ?_, inr_nodup h.2⟩
    obtain ⟨y, y1, y2⟩ := List.mem_map.mp m
    exact h.1 (Sum.inr.inj y2 ▸ y1)
theorem g_dict {Q : Rho → A → Prop} (ct : Ct g.X k) (s : Blt g.X x (.type "dict")) (h : GoV g e ρ fun ρ1 d => ∃ ps, d = .lst (prs ps) ∧ (ps.map (·.1)).Nodup ∧ Q ρ1 (.own false (.dic (ps.map (·.1)) (ps.map (·.2)))))
    (he : starEach (e :: []) g.X.env = (false, eval e g.X.env) :: starEach [] g.X.env := by rfl) (hpl : (backTo pos (starEach [] g.X.env)).any (·.1) = false := by rfl) : GoE g (.Call (.Name x p) [e] [] pos) ρ Q :=
  e_callTy (call_dictP ct.calm) s (a_cons (h.imp fun r d ⟨ps, e1, nd, q⟩ => a_nil (by
    intro σ H0 H1 S T vs hv Qv kk
    obtain ⟨v, rr, e2, r1, r2⟩ := hv
    subst e2; subst e1
    cases (show rr = [] from r2)
    obtain ⟨pp, vs, rfl, hp, rs⟩ := r1
    obtain ⟨as, kvs, z1, z2, z3, z4⟩ := prs_reps S.sub ps vs rs
    subst z1
    refine ⟨pp, as, kvs, rfl, SqL.of (S.sub _ _ hp), z2, fun l hl => ?_⟩
    rw [mergeK_new kvs [] (by rw [List.map_nil, List.nil_append, z3]; exact inr_nodup nd), List.nil_append]
    obtain ⟨S4, s4, h0, hc⟩ := sat_mine (u := .dK kvs) S hl
    exact kk _ _ _ r _ s4 S4 (res_dic h0 hl hc upd_same z3 z4) q)) he) he hpl
end
end FW

set_option Elab.async false
set_option linter.all false
set_option maxRecDepth 100000
set_option maxHeartbeats 4000000
/-! sizes of fractions -/
namespace FW
open PySem L2

theorem Sz.mono {a b : Nat} {q : Rat} (h : Sz a q) (l : a ≤ b) : Sz b q := ⟨Nat.lt_of_lt_of_le h.1 (Nat.pow_le_pow_right (by decide) l), Nat.lt_of_lt_of_le h.2 (Nat.pow_le_pow_right (by decide) l)⟩
theorem iadd {m n : Int} {a b c : Nat} (hm : m.natAbs < 2 ^ a) (hn : n.natAbs < 2 ^ b) (h1 : a + 1 ≤ c) (h2 : b + 1 ≤ c) : (m + n).natAbs < 2 ^ c := by
  have hm' : m.natAbs < 2 ^ (c - 1) := Nat.lt_of_lt_of_le hm (Nat.pow_le_pow_right (by decide) (by omega))
  have hn' : n.natAbs < 2 ^ (c - 1) := Nat.lt_of_lt_of_le hn (Nat.pow_le_pow_right (by decide) (by omega))
  have e : 2 ^ c = 2 ^ (c - 1) * 2 := by rw [← Nat.pow_succ]; congr 1; omega
  have := Int.natAbs_add_le m n
  omega
theorem isub {m n : Int} {a b c : Nat} (hm : m.natAbs < 2 ^ a) (hn : n.natAbs < 2 ^ b) (h1 : a + 1 ≤ c) (h2 : b + 1 ≤ c) : (m - n).natAbs < 2 ^ c := by
  have := iadd (m := m) (n := -n) hm (by rw [Int.natAbs_neg]; exact hn) h1 h2
  rwa [← Int.sub_eq_add_neg] at this
theorem imul {m n : Int} {a b c : Nat} (hm : m.natAbs < 2 ^ a) (hn : n.natAbs < 2 ^ b) (h : a + b ≤ c) : (m * n).natAbs < 2 ^ c := by
  rw [Int.natAbs_mul]
  refine Nat.lt_of_lt_of_le ?_ (Nat.pow_le_pow_right (by decide : 0 < 2) h)
  rw [Nat.pow_add]
  exact Nat.mul_lt_mul'' hm hn
/-- a fraction by any of its forms -/
theorem sz_of {q : Rat} {a b : Int} {n : Nat} (hb : b ≠ 0) (e : q * (b : Rat) = (a : Rat)) (h1 : a.natAbs < 2 ^ n) (h2 : b.natAbs < 2 ^ n) : Sz n q := by
  have hb' : (b : Rat) ≠ 0 := by exact_mod_cast hb
  have : q = Rat.divInt a b := by
    rw [Rat.divInt_eq_div, ← e, Rat.mul_div_cancel hb']
  rw [this]
  exact sz_divInt hb h1 h2
theorem num_den (q : Rat) : q * ((q.den : Int) : Rat) = (q.num : Rat) := by
  have h : ((q.den : Int) : Rat) ≠ 0 := by have := q.den_nz; exact_mod_cast this
  have e := Rat.num_divInt_den q
  rw [Rat.divInt_eq_div] at e
  have e2 : ((q.num : Rat) / ((q.den : Int) : Rat)) * ((q.den : Int) : Rat) = (q.num : Rat) := Rat.div_mul_cancel h
  rw [e] at e2
  exact e2
theorem den_abs {a : Nat} {q : Rat} (h : Sz a q) : ((q.den : Int)).natAbs < 2 ^ a := by rw [Int.natAbs_natCast]; exact h.2
theorem den_ne (q : Rat) : ((q.den : Int)) ≠ 0 := by have := q.den_nz; omega
theorem Sz.add {a b c : Nat} {p q : Rat} (hp : Sz a p) (hq : Sz b q) (h : a + b + 1 ≤ c) : Sz c (p + q) := by
  rw [← plus_eq]
  exact sz_divInt (Int.mul_ne_zero (den_ne p) (den_ne q)) (iadd (imul hp.1 (den_abs hq) (Nat.le_refl _)) (imul hq.1 (den_abs hp) (Nat.le_refl _)) h (by omega)) (imul (den_abs hp) (den_abs hq) (by omega))
theorem Sz.sub {a b c : Nat} {p q : Rat} (hp : Sz a p) (hq : Sz b q) (h : a + b + 1 ≤ c) : Sz c (p - q) := by
  rw [← minus_eq]
  exact sz_divInt (Int.mul_ne_zero (den_ne p) (den_ne q)) (isub (imul hp.1 (den_abs hq) (Nat.le_refl _)) (imul hq.1 (den_abs hp) (Nat.le_refl _)) h (by omega)) (imul (den_abs hp) (den_abs hq) (by omega))
theorem Sz.mul {a b c : Nat} {p q : Rat} (hp : Sz a p) (hq : Sz b q) (h : a + b ≤ c) : Sz c (p * q) := by
  rw [← times_eq]
  exact sz_divInt (Int.mul_ne_zero (den_ne p) (den_ne q)) (imul hp.1 hq.1 h) (imul (den_abs hp) (den_abs hq) h)
theorem Sz.div {a b c : Nat} {p q : Rat} (hp : Sz a p) (hq : Sz b q) (h0 : q ≠ 0) (h : a + b ≤ c) : Sz c (p / q) := by
  rw [← shared_eq]
  refine sz_divInt (Int.mul_ne_zero (den_ne p) ?_) (imul hp.1 (den_abs hq) h) (imul (den_abs hp) hq.1 h)
  intro z
  exact h0 (Rat.num_eq_zero.mp z)
theorem sz_int {n : Int} {a : Nat} (h : n.natAbs < 2 ^ a) (h1 : 1 ≤ a) : Sz a (n : Rat) :=
  ⟨h, Nat.lt_of_lt_of_le (by decide : 1 < 2 ^ 1) (Nat.pow_le_pow_right (by decide) h1)⟩
theorem fr_int (n : Int) : fr (n : Rat) = .tup [.int n, .int 1] := rfl
theorem fr_inj {p q : Rat} (h : fr p = fr q) : p = q := by
  unfold fr at h
  simp only [D.tup.injEq, List.cons.injEq, D.int.injEq] at h
  exact Rat.ext h.1 (by have := h.2.1; omega)
theorem fr_cl (q : Rat) : cl (fr q) = true := by simp [fr, cl, cls]
theorem fr_pd (q : Rat) : pd (fr q) = true := by simp [fr, pd, pds]
theorem fr_depth (q : Rat) : (toP (fr q)).depth = 1 := by simp [fr, toP, toPs, PyData.depth, PyData.depthAll]
theorem fr_cmp (q : Rat) : cmpD (fr q) := ⟨fr_pd q, by rw [fr_depth]; decide⟩
theorem fr_eqP (p q : Rat) : eqP (fr p) (fr q) = decide (p = q) := by
  have h := eqv_iff (fr p) (fr q) (fr_cl p) (fr_cl q)
  unfold eqP
  by_cases z : p = q
  · rw [decide_eq_true z, h.mpr (by rw [z])]
  · rw [decide_eq_false z]
    cases e : PyData.eqv (toP (fr p)) (toP (fr q)) with
    | false => rfl
    | true => exact absurd (fr_inj (h.mp e)) z

theorem num_pos {q : Rat} (h : 0 < q) : 0 < q.num := by
  have := (Rat.lt_iff 0 q).mp h
  simpa using this
/-! ### hangings -/
inductive Hg where
  | wt (n : Str) (h : Int) | pu (n : Str) (own : Int) (l : Hg) (a : Int) (r : Hg) (b : Int)
namespace Hg
def nm : Hg → Str
  | wt n _ => n
  | pu n _ _ _ _ _ => n
def d : Hg → D
  | wt n h => .tup [.str n, .int h]
  | pu n own l a r b => .tup [.str n, .int own, l.d, .int a, r.d, .int b]
def nw : Hg → Nat
  | wt _ _ => 1
  | pu _ _ l _ r _ => l.nw + r.nw
def things : Hg → List Hg
  | wt n h => [wt n h]
  | pu n own l a r b => pu n own l a r b :: (l.things ++ r.things)
def isW : Hg → Bool
  | wt _ _ => true
  | _ => false
def names (h : Hg) : List Str := h.things.map nm
theorem nw_pos : ∀ h : Hg, 1 ≤ h.nw
  | wt _ _ => Nat.le_refl _
  | pu _ _ l _ r _ => by have := nw_pos l; have := nw_pos r; show 1 ≤ l.nw + r.nw; omega
theorem things_len : ∀ h : Hg, h.things.length + 1 = 2 * h.nw
  | wt _ _ => rfl
  | pu _ _ l _ r _ => by
    have h1 := things_len l
    have h2 := things_len r
    show (_ :: (l.things ++ r.things)).length + 1 = 2 * (l.nw + r.nw)
    rw [List.length_cons, List.length_append]
    omega
theorem weights_len : ∀ h : Hg, (h.things.filter isW).length = h.nw
  | wt _ _ => rfl
  | pu _ _ l _ r _ => by
    show ((_ :: (l.things ++ r.things)).filter isW).length = l.nw + r.nw
    rw [List.filter_cons_of_neg (by simp [isW]), List.filter_append, List.length_append, weights_len l, weights_len r]
end Hg
def letters : Str := "abcdefghijklmnopqrstuvwxyz"
/-- a name: 1 to 8 small letters -/
structure NmOk (s : Str) : Prop where
  lo : 1 ≤ s.length
  hi : s.length ≤ 8
  sg : ∀ c ∈ s.cps.toList, c ∈ letters.cps.toList
namespace Hg
def Ok : Hg → Prop
  | wt n h => NmOk n ∧ 1 ≤ h ∧ h ≤ 1000
  | pu n own l a r b => NmOk n ∧ 0 ≤ own ∧ own ≤ 1000 ∧ l.Ok ∧ 1 ≤ a ∧ a ≤ 1000 ∧ r.Ok ∧ 1 ≤ b ∧ b ≤ 1000
/-- what need_hanging lets pass -/
structure Good (h : Hg) : Prop where
  ok : h.Ok
  nw : h.nw ≤ 8
  nd : h.names.Nodup
/-- the whole felt as one weight; kf: weights of another heaviness -/
def F (kf : Str → Option Rat) : Hg → Rat
  | wt n h => (kf n).getD h
  | pu _ own l _ r _ => own + 4 * (F kf l * F kf r) / (F kf l + F kf r)
/-- a table of other heavinesses -/
def KOk (kf : Str → Option Rat) : Prop := ∀ n q, kf n = some q → 0 < q ∧ Sz 10 q
theorem F_pos {kf : Str → Option Rat} (hk : KOk kf) : ∀ {h : Hg}, h.Ok → 0 < h.F kf
  | wt n h, ok => by
    show 0 < (kf n).getD (h : Rat)
    cases e : kf n with
    | none =>
      have : 0 < h := by have := ok.2.1; omega
      exact Rat.intCast_pos.mpr this
    | some q => exact (hk n q e).1
  | pu n own l a r b, ok => by
    obtain ⟨_, o1, _, o2, _, _, o3, _⟩ := ok
    have h1 := F_pos hk o2
    have h2 := F_pos hk o3
    show 0 < (own : Rat) + 4 * (F kf l * F kf r) / (F kf l + F kf r)
    have h3 : 0 ≤ (own : Rat) := Rat.intCast_nonneg.mpr o1
    have h4 : 0 < F kf l * F kf r := Rat.mul_pos h1 h2
    have h5 : 0 < (F kf l + F kf r)⁻¹ := Rat.inv_pos.mpr (by grind)
    have h6 : 0 < 4 * (F kf l * F kf r) / (F kf l + F kf r) := by
      rw [Rat.div_def]
      exact Rat.mul_pos (by grind) h5
    grind
/-- sizes of what is felt at the ends of one rope -/
theorem sz_ends {p q : Rat} {a b : Nat} (hp : Sz a p) (hq : Sz b q) (h1 : 0 < p) (h2 : 0 < q) : Sz (a + b + 2) (2 * q / (p + q)) ∧ Sz (a + b + 2) (2 * p / (p + q)) ∧ Sz (a + b + 2) (2 * (p * q) / (p + q)) ∧
    ∀ own : Int, 0 ≤ own → own ≤ 1000 → Sz (a + b + 12) ((own : Rat) + 4 * (p * q) / (p + q)) := by
  have e1 := num_den p
  have e2 := num_den q
  have s0 : p + q ≠ 0 := by grind
  have dp : (0 : Int) < p.den := by have := p.den_pos; omega
  have dq : (0 : Int) < q.den := by have := q.den_pos; omega
  have np : 0 < p.num := num_pos h1
  have nq : 0 < q.num := num_pos h2
  have k1 : 0 < p.num * (q.den : Int) := Int.mul_pos np dq
  have k2 : 0 < q.num * (p.den : Int) := Int.mul_pos nq dp
  have hb : p.num * (q.den : Int) + q.num * (p.den : Int) ≠ 0 := by omega
  have b1 : (p.num * (q.den : Int)).natAbs < 2 ^ (a + b) := imul hp.1 (den_abs hq) (Nat.le_refl _)
  have b2 : (q.num * (p.den : Int)).natAbs < 2 ^ (a + b) := imul hq.1 (den_abs hp) (by omega)
  have bb : (p.num * (q.den : Int) + q.num * (p.den : Int)).natAbs < 2 ^ (a + b + 1) := iadd b1 b2 (Nat.le_refl _) (Nat.le_refl _)
  have two : (2 : Int).natAbs < 2 ^ 2 := by decide
  have c2 : ∀ {x : Int} {n : Nat}, x.natAbs < 2 ^ n → (2 * x).natAbs < 2 ^ (n + 1) := fun {x n} h => by
    rw [Int.natAbs_mul, Nat.pow_succ, Nat.mul_comm]
    exact Nat.mul_lt_mul_of_pos_right h (by decide)
  have m1 : ∀ {m n x : Nat}, x < 2 ^ m → m ≤ n → x < 2 ^ n := fun h l => Nat.lt_of_lt_of_le h (Nat.pow_le_pow_right (by decide) l)
  have bpq : (p.num * q.num).natAbs < 2 ^ (a + b) := imul hp.1 hq.1 (Nat.le_refl _)
  have inv : (p + q) * (p + q)⁻¹ = 1 := Rat.mul_inv_cancel _ s0
  refine ⟨sz_of (a := 2 * (q.num * (p.den : Int))) hb ?_ (m1 (c2 b2) (by omega)) (m1 bb (by omega)), sz_of (a := 2 * (p.num * (q.den : Int))) hb ?_ (m1 (c2 b1) (by omega)) (m1 bb (by omega)), sz_of (a := 2 * (p.num * q.num)) hb ?_ (m1 (c2 bpq) (by omega)) (m1 bb (by omega)), fun own o1 o2 => ?_⟩
  · simp only [Rat.intCast_mul, Rat.intCast_add, Rat.div_def]
    rw [← e1, ← e2]
    show _ = ((2 : Int) : Rat) * _
    have : ((2 : Int) : Rat) = 2 := rfl
    rw [this]
    grind
  · simp only [Rat.intCast_mul, Rat.intCast_add, Rat.div_def]
    rw [← e1, ← e2]
    have : ((2 : Int) : Rat) = 2 := rfl
    rw [this]
    grind
  · simp only [Rat.intCast_mul, Rat.intCast_add, Rat.div_def]
    rw [← e1, ← e2]
    have : ((2 : Int) : Rat) = 2 := rfl
    rw [this]
    grind
  · have bo : own.natAbs < 2 ^ 10 := by
      have : (2 : Nat) ^ 10 = 1024 := by decide
      omega
    refine sz_of (a := own * (p.num * (q.den : Int) + q.num * (p.den : Int)) + 2 * (2 * (p.num * q.num))) hb ?_ (iadd (imul bo bb (Nat.le_refl _)) (c2 (c2 bpq)) (by omega) (by omega)) (m1 bb (by omega))
    simp only [Rat.intCast_mul, Rat.intCast_add, Rat.div_def]
    rw [← e1, ← e2]
    have : ((2 : Int) : Rat) = 2 := rfl
    rw [this]
    grind
theorem F_sz {kf : Str → Option Rat} (hk : KOk kf) : ∀ {h : Hg}, h.Ok → Sz (22 * h.nw - 12) (h.F kf)
  | wt n h, ok => by
    show Sz 10 ((kf n).getD (h : Rat))
    cases e : kf n with
    | none =>
      obtain ⟨_, o1, o2⟩ := ok
      refine sz_int ?_ (by decide)
      have : (2 : Nat) ^ 10 = 1024 := by decide
      omega
    | some q => exact (hk n q e).2
  | pu n own l a r b, ok => by
    have ok' := ok
    obtain ⟨_, o1, o1', o2, _, _, o3, _⟩ := ok'
    have e : (pu n own l a r b).nw = l.nw + r.nw := rfl
    have hl := l.nw_pos
    have hr := r.nw_pos
    have h := (sz_ends (F_sz hk o2) (F_sz hk o3) (F_pos hk o2) (F_pos hk o3)).2.2.2 own o1 o1'
    exact h.mono (by omega)
/-- how fast each thing moves and how much it is held with -/
def runsM (kf : Str → Option Rat) : Hg → Rat → Rat → List (Str × Rat × Rat)
  | wt n _, s, p => [(n, s, p)]
  | pu n _ l _ r _, s, p => (n, s, p) :: (runsM kf l (1 - 2 * (F kf l * F kf r) / (F kf l + F kf r) * (1 - s) / F kf l) (2 * (F kf l * F kf r) / (F kf l + F kf r) * (1 - s)) ++
      runsM kf r (1 - 2 * (F kf l * F kf r) / (F kf l + F kf r) * (1 - s) / F kf r) (2 * (F kf l * F kf r) / (F kf l + F kf r) * (1 - s)))
theorem runs_names (kf : Str → Option Rat) : ∀ (h : Hg) (s p : Rat), (runsM kf h s p).map (·.1) = h.names
  | wt _ _, _, _ => rfl
  | pu n own l a r b, s, p => by
    show n :: ((runsM kf l _ _ ++ runsM kf r _ _).map (·.1)) = n :: (l.things ++ r.things).map nm
    rw [List.map_append, List.map_append, runs_names kf l, runs_names kf r]
    rfl
/-- one step down, its sizes: x = 1 - s -/
theorem sz_down {kf : Str → Option Rat} {l r : Hg} {s : Rat} {m : Nat} (hk : KOk kf) (o2 : l.Ok) (o3 : r.Ok) (h : Sz m (1 - s)) (hw : l.nw + r.nw ≤ 8) :
    Sz (m + 180) (2 * (F kf l * F kf r) / (F kf l + F kf r) * (1 - s)) ∧ Sz (m + 180) (2 * (F kf l * F kf r) / (F kf l + F kf r) * (1 - s) / F kf l) ∧ Sz (m + 180) (2 * (F kf l * F kf r) / (F kf l + F kf r) * (1 - s) / F kf r) := by
  have h1 := F_pos hk o2
  have h2 := F_pos hk o3
  have hl := l.nw_pos
  have hr := r.nw_pos
  obtain ⟨e1, e2, e3, _⟩ := sz_ends (F_sz hk o2) (F_sz hk o3) h1 h2
  have z1 : 2 * (F kf l * F kf r) / (F kf l + F kf r) * (1 - s) / F kf l = (2 * F kf r / (F kf l + F kf r)) * (1 - s) := by
    have : F kf l * (F kf l)⁻¹ = 1 := Rat.mul_inv_cancel _ (by grind)
    simp only [Rat.div_def]
    grind
  have z2 : 2 * (F kf l * F kf r) / (F kf l + F kf r) * (1 - s) / F kf r = (2 * F kf l / (F kf l + F kf r)) * (1 - s) := by
    have : F kf r * (F kf r)⁻¹ = 1 := Rat.mul_inv_cancel _ (by grind)
    simp only [Rat.div_def]
    grind
  rw [z1, z2]
  exact ⟨e3.mul h (by omega), e1.mul h (by omega), e2.mul h (by omega)⟩
theorem runs_sz {kf : Str → Option Rat} (hk : KOk kf) : ∀ (n : Nat) {h : Hg}, h.Ok → h.nw ≤ n → n ≤ 8 → ∀ {s p : Rat}, Sz (2000 - 200 * n) (1 - s) → Sz (2001 - 200 * n) s → Sz (2000 - 200 * n) p → ∀ x ∈ runsM kf h s p, Sz 2001 x.2.1 ∧ Sz 2001 x.2.2
  | 0, h, _, hn, _, _, _, _, _, _ => by have := h.nw_pos; omega
  | n + 1, h, ok, hn, h8, s, p, h1, h2, h3 => by
    intro x hx
    cases h with
    | wt nm hv =>
      rw [show x = (nm, s, p) from List.mem_singleton.mp hx]
      exact ⟨h2.mono (by omega), h3.mono (by omega)⟩
    | pu nm own l a r b =>
      obtain ⟨_, _, _, o2, _, _, o3, _⟩ := ok
      have hn' : l.nw + r.nw ≤ n + 1 := hn
      have hl := l.nw_pos
      have hr := r.nw_pos
      obtain ⟨d1, d2, d3⟩ := sz_down hk o2 o3 h1 (by omega)
      have one : Sz 1 (1 : Rat) := sz_int (n := 1) (by decide) (by decide)
      have back : ∀ q : Rat, 1 - (1 - q) = q := fun q => by grind
      have go : ∀ {h : Hg} {q : Rat}, h.Ok → h.nw ≤ n → Sz (2000 - 200 * (n + 1) + 180) q → ∀ x ∈ runsM kf h (1 - q) (2 * (F kf l * F kf r) / (F kf l + F kf r) * (1 - s)), Sz 2001 x.2.1 ∧ Sz 2001 x.2.2 := fun ho hw hq => by
        refine runs_sz hk n ho hw (by omega) ?_ ?_ (d1.mono (by omega))
        · rw [back]; exact hq.mono (by omega)
        · exact one.sub hq (by omega)
      rcases List.mem_cons.mp hx with e | hx
      · rw [e]; exact ⟨h2.mono (by omega), h3.mono (by omega)⟩
      · rcases List.mem_append.mp hx with hx | hx
        · exact go o2 (by omega) d2 x hx
        · exact go o3 (by omega) d3 x hx
end Hg
end FW

set_option Elab.async false
set_option linter.all false
set_option maxRecDepth 100000
set_option maxHeartbeats 4000000
/-! == of scalars or of data, one rule -/
namespace FW
open PySem PySem.Spec PyProof.Rows L2

def eqOk (x y : D) (b : Bool) : Prop := (sc x y = true ∧ b = eqS x y) ∨ (cmpD x ∧ cmpD y ∧ b = eqP x y)
theorem eqOk_int {m n : Int} : eqOk (.int m) (.int n) (decide (m = n)) := .inl ⟨rfl, rfl⟩
theorem eqOk_str {m n : Str} : eqOk (.str m) (.str n) (decide (m = n)) := .inl ⟨rfl, rfl⟩
theorem eqOk_bl {m n : Bool} : eqOk (.bl m) (.bl n) (decide (m = n)) := .inl ⟨rfl, rfl⟩
theorem eqOk_fr {m n : Rat} : eqOk (fr m) (fr n) (decide (m = n)) := .inr ⟨fr_cmp m, fr_cmp n, (fr_eqP m n).symm⟩
section
variable {g : G} {k : Nat} {ρ : Rho} {a b c e : Expr} {es : List Expr} {pos p p2 apos : Pos} {j i : Nat} {x : Str} {Q : Rho → D → Prop} {R : Rho → Bool → Prop}
def rOr (r r' : R2) : R2 := fun x y H Q => r x y H Q ∨ r' x y H Q
theorem op_or {X : Cx} {o : Value → Value → Sem Value} {r r' : R2} (h : OpR X o r) (h' : OpR X o r') : OpR X o (rOr r r') := fun pins s σ H x y v u Q I rx ry q => q.elim (h pins s σ H x y v u Q I rx ry) (h' pins s σ H x y v u Q I rx ry)
theorem rv_eqX {m n : D} {k : Bool} (h : eqOk m n k) (q : Q ρ (.bl k)) : RV g (rOr rEq (rEqD g.X.K)) m n ρ Q := by
  rcases h with ⟨h, rfl⟩ | ⟨h1, h2, rfl⟩
  · exact fun σ H0 H1 S T v u r1 r2 Qv kk => .inl (rv_eqS h q σ H0 H1 S T v u r1 r2 Qv kk)
  · exact fun σ H0 H1 S T v u r1 r2 Qv kk => .inr (rv_eqP h1 h2 q σ H0 H1 S T v u r1 r2 Qv kk)
theorem rv_neX {m n : D} {k : Bool} (h : eqOk m n k) (q : Q ρ (.bl (!k))) : RV g (rOr rNe (rNeD g.X.K)) m n ρ Q := by
  rcases h with ⟨h, rfl⟩ | ⟨h1, h2, rfl⟩
  · exact fun σ H0 H1 S T v u r1 r2 Qv kk => .inl (rv_neS h q σ H0 H1 S T v u r1 r2 Qv kk)
  · exact fun σ H0 H1 S T v u r1 r2 Qv kk => .inr (rv_neP h1 h2 q σ H0 H1 S T v u r1 r2 Qv kk)
theorem t_eqX (ct : Ct g.X k) (h : GoV g a ρ fun ρ1 x => GoV g b ρ1 fun ρ2 y => ∃ b, eqOk x y b ∧ R ρ2 b) : GoT g (.Compare a [.Eq] [b] pos) ρ R :=
  c_test (op_or op_eq (op_eqD (by have := Room.u ct.room; omega))) (h.imp fun r d h' => h'.imp fun r' d' ⟨b, s, q⟩ => rv_eqX s ⟨_, rfl, q⟩) (nomark _)
theorem t_neX (ct : Ct g.X k) (h : GoV g a ρ fun ρ1 x => GoV g b ρ1 fun ρ2 y => ∃ b, eqOk x y b ∧ R ρ2 (!b)) : GoT g (.Compare a [.NotEq] [b] pos) ρ R :=
  c_test (op_or op_ne (op_neD (by have := Room.u ct.room; omega))) (h.imp fun r d h' => h'.imp fun r' d' ⟨b, s, q⟩ => rv_neX s ⟨_, rfl, q⟩) (nomark _)
theorem g_eqX (ct : Ct g.X k) (h : GoV g a ρ fun ρ1 x => GoV g b ρ1 fun ρ2 y => ∃ b, eqOk x y b ∧ Q ρ2 (.bl b)) : GoV g (.Compare a [.Eq] [b] pos) ρ Q :=
  c_val (op_or op_eq (op_eqD (by have := Room.u ct.room; omega))) (h.imp fun r d h' => h'.imp fun r' d' ⟨b, s, q⟩ => rv_eqX s q) (nomark _)
theorem g_neX (ct : Ct g.X k) (h : GoV g a ρ fun ρ1 x => GoV g b ρ1 fun ρ2 y => ∃ b, eqOk x y b ∧ Q ρ2 (.bl (!b))) : GoV g (.Compare a [.NotEq] [b] pos) ρ Q :=
  c_val (op_or op_ne (op_neD (by have := Room.u ct.room; omega))) (h.imp fun r d h' => h'.imp fun r' d' ⟨b, s, q⟩ => rv_neX s q) (nomark _)
/-- is not False and the like -/
theorem t_isnB (h : GoV g a ρ fun ρ1 x => ∃ m, x = .bl m ∧ GoV g b ρ1 fun ρ2 y => ∃ n, y = .bl n ∧ R ρ2 (!decide (m = n))) : GoT g (.Compare a [.IsNot] [b] pos) ρ R :=
  c_test op_isnot_bl (h.imp fun r d ⟨m, e, h'⟩ => h'.imp fun r' d' ⟨n, e', q⟩ => by
    subst e; subst e'
    exact fun σ H0 H1 S T v u r1 r2 Qv kk => ⟨m, n, r1, r2, kk _ _ _ _ _ Step.refl S rep_bl ⟨_, rfl, q⟩⟩) (nomark _)
theorem t_isB (h : GoV g a ρ fun ρ1 x => ∃ m, x = .bl m ∧ GoV g b ρ1 fun ρ2 y => ∃ n, y = .bl n ∧ R ρ2 (decide (m = n))) : GoT g (.Compare a [.Is] [b] pos) ρ R :=
  c_test op_is_bl (h.imp fun r d ⟨m, e, h'⟩ => h'.imp fun r' d' ⟨n, e', q⟩ => by
    subst e; subst e'
    exact fun σ H0 H1 S T v u r1 r2 Qv kk => ⟨m, n, r1, r2, kk _ _ _ _ _ Step.refl S rep_bl ⟨_, rfl, q⟩⟩) (nomark _)
end
/-- the turns of a comprehension that changes nothing -/
theorem loopC_go {X : Cx} {scope : Scope} {t : TG} {ifs : List Expr} {elt : Expr} {vs : List Nat} {ρ : Rho} {Kt : Rho → List D → Prop} (f : D → List D) (hn : noOwn ρ vs = true) : ∀ (ds acc : List D), acc.length + ds.length ≤ 100000 →
    (∀ d ∈ ds, WGv ⟨X, fun _ _ => False⟩ t vs d (wipeR ρ vs) fun ρa => ∀ X', BlkOf X X' scope → GoIf ⟨X', fun _ _ => False⟩ ifs ρa fun ρb b =>
      (b = true → ∀ X'', BlkOf X X'' scope → GoV ⟨X'', fun _ _ => False⟩ elt ρb fun ρc y => ρc.length = ρ.length ∧ restore ρ ρc vs = ρ ∧ f d = [y]) ∧ (b = false → ρb.length = ρ.length ∧ restore ρ ρb vs = ρ ∧ f d = [])) →
    Kt ρ (acc ++ ds.flatMap f) → LoopC X scope t ifs elt vs ds acc ρ Kt
  | [], acc, _, _, k => by
    show Kt ρ acc
    simpa using k
  | d :: ds, acc, hl, h, k => by
    rw [List.length_cons] at hl
    refine ⟨hn, by omega, fun σ H0 H1 S v r Qv kk => h d (List.mem_cons_self ..) σ H0 H1 S v r Qv fun σ' ρa l o st S' q => kk σ' ρa l o st S' fun X' bX => ?_⟩
    have q' := q X' bX
    have tl : ∀ y, f d = [y] → LoopC X scope t ifs elt vs ds (acc ++ [y]) ρ Kt := fun y e => loopC_go f hn ds _ (by simp; omega) (fun d' hd => h d' (List.mem_cons_of_mem _ hd)) (by
      rw [List.flatMap_cons, e] at k
      rw [List.append_assoc]
      exact k)
    have tn : f d = [] → LoopC X scope t ifs elt vs ds acc ρ Kt := fun e => loopC_go f hn ds _ (by omega) (fun d' hd => h d' (List.mem_cons_of_mem _ hd)) (by
      rw [List.flatMap_cons, e] at k
      exact k)
    cases ifs with
    | nil =>
      refine ⟨fun z X'' b2 => (q'.1 z X'' b2).imp fun ρc y ⟨z1, z2, z3⟩ _ => ?_, fun z => absurd z (by decide)⟩
      rw [z2]
      exact tl y z3
    | cons c cs =>
      cases cs with
      | nil =>
        refine WT.imp q' fun ρb b z => ⟨fun hb X'' b2 => (z.1 hb X'' b2).imp fun ρc y ⟨z1, z2, z3⟩ _ => ?_, fun hb _ => ?_⟩
        · rw [z2]; exact tl y z3
        · obtain ⟨z1, z2, z3⟩ := z.2 hb
          rw [z2]; exact tn z3
      | cons => exact q'.elim
/-! names, hangings as data -/
theorem NmOk.str {s : Str} (h : NmOk s) : PyData.canLay0 (.str s) = true := by
  simp only [PyData.canLay0, PyData.strOk, ← Array.all_toList]
  rw [List.all_eq_true]
  intro c hc
  have h1 := h.sg c hc
  have h2 : ∀ c ∈ letters.cps.toList, c < 0x110000 := by decide +kernel
  exact decide_eq_true (h2 c h1)
theorem NmOk.pd {s : Str} (h : NmOk s) : pd (.str s) = true := h.str
theorem fm_map {α β : Type} (f : α → β) (ds : List α) : ds.flatMap (fun d => [f d]) = ds.map f := by
  induction ds with
  | nil => rfl
  | cons d ds ih => rw [List.flatMap_cons, ih]; rfl
theorem fm_filter {α β : Type} (p : α → Bool) (f : α → β) (ds : List α) : ds.flatMap (fun d => if p d = true then [f d] else []) = (ds.filter p).map f := by
  induction ds with
  | nil => rfl
  | cons d ds ih =>
    rw [List.flatMap_cons, ih]
    cases h : p d
    · rw [List.filter_cons_of_neg (by rw [h]; decide)]; rfl
    · rw [List.filter_cons_of_pos h]; rfl
theorem sc_all {x : D} {ds : List D} (h : ds.all (sc x) = true) : ∀ d ∈ ds, sc x d = true := List.all_eq_true.mp h
end FW

set_option Elab.async false
set_option linter.all false
set_option maxRecDepth 100000
set_option maxHeartbeats 4000000
namespace FW
open PySem PySem.Spec PyProof.Rows L2
/-- the turns of a comprehension over things x that stand as data φ x -/
theorem loopC_on {X : Cx} {scope : Scope} {t : TG} {ifs : List Expr} {elt : Expr} {vs : List Nat} {ρ : Rho} {Kt : Rho → List D → Prop} {α : Type} (φ : α → D) (f : α → List D) (hn : noOwn ρ vs = true) : ∀ (xs : List α) (acc : List D), acc.length + xs.length ≤ 100000 →
    (∀ x ∈ xs, WGv ⟨X, fun _ _ => False⟩ t vs (φ x) (wipeR ρ vs) fun ρa => ∀ X', BlkOf X X' scope → GoIf ⟨X', fun _ _ => False⟩ ifs ρa fun ρb b =>
      (b = true → ∀ X'', BlkOf X X'' scope → GoV ⟨X'', fun _ _ => False⟩ elt ρb fun ρc y => ρc.length = ρ.length ∧ restore ρ ρc vs = ρ ∧ f x = [y]) ∧ (b = false → ρb.length = ρ.length ∧ restore ρ ρb vs = ρ ∧ f x = [])) →
    Kt ρ (acc ++ xs.flatMap f) → LoopC X scope t ifs elt vs (xs.map φ) acc ρ Kt
  | [], acc, _, _, k => by
    show Kt ρ acc
    simpa using k
  | x :: xs, acc, hl, h, k => by
    rw [List.length_cons] at hl
    refine ⟨hn, by omega, fun σ H0 H1 S v r Qv kk => h x (List.mem_cons_self ..) σ H0 H1 S v r Qv fun σ' ρa l o st S' q => kk σ' ρa l o st S' fun X' bX => ?_⟩
    have q' := q X' bX
    have tl : ∀ y, f x = [y] → LoopC X scope t ifs elt vs (xs.map φ) (acc ++ [y]) ρ Kt := fun y e => loopC_on φ f hn xs _ (by simp; omega) (fun d' hd => h d' (List.mem_cons_of_mem _ hd)) (by
      rw [List.flatMap_cons, e] at k
      rw [List.append_assoc]
      exact k)
    have tn : f x = [] → LoopC X scope t ifs elt vs (xs.map φ) acc ρ Kt := fun e => loopC_on φ f hn xs _ (by omega) (fun d' hd => h d' (List.mem_cons_of_mem _ hd)) (by
      rw [List.flatMap_cons, e] at k
      exact k)
    cases ifs with
    | nil =>
      refine ⟨fun z X'' b2 => (q'.1 z X'' b2).imp fun ρc y ⟨z1, z2, z3⟩ _ => ?_, fun z => absurd z (by decide)⟩
      rw [z2]
      exact tl y z3
    | cons c cs =>
      cases cs with
      | nil =>
        refine WT.imp q' fun ρb b z => ⟨fun hb X'' b2 => (z.1 hb X'' b2).imp fun ρc y ⟨z1, z2, z3⟩ _ => ?_, fun hb _ => ?_⟩
        · rw [z2]; exact tl y z3
        · obtain ⟨z1, z2, z3⟩ := z.2 hb
          rw [z2]; exact tn z3
      | cons => exact q'.elim
theorem Hg.runs_len (kf : Str → Option Rat) (h : Hg) (s p : Rat) : (Hg.runsM kf h s p).length + 1 = 2 * h.nw := by
  have e := congrArg List.length (Hg.runs_names kf h s p)
  have e2 := h.things_len
  simp only [List.length_map, Hg.names] at e
  omega
theorem Hg.names_ok : ∀ {h : Hg}, h.Ok → ∀ x ∈ h.names, NmOk x
  | .wt n _, ok => fun x hx => by
    rw [show x = n from List.mem_singleton.mp hx]
    exact ok.1
  | .pu n own l a r b, ok => fun x hx => by
    obtain ⟨o1, _, _, o2, _, _, o3, _⟩ := ok
    have hx' : x ∈ n :: (l.things ++ r.things).map Hg.nm := hx
    rw [List.map_append] at hx'
    rcases List.mem_cons.mp hx' with e | hx'
    · rw [e]; exact o1
    · rcases List.mem_append.mp hx' with q | q
      · exact Hg.names_ok o2 x q
      · exact Hg.names_ok o3 x q
theorem pgb_tup {g : G} {scope : Scope} {es : List Expr} {u : TGs} {n k : Nat} {pos : Pos} (hc : g.X.calm = true) (h : ∀ (s : Shared) (H : Hp) (C : Addr) (cl : List (Str × Addr)) (fp : List Addr), PGs (g.X.blk s H scope (compEnvC scope cl C g.X.env) fp) es u)
    (hn : ∀ env, (assignEach es env).length = n := by intro _; rfl) (hst : ∀ env, (assignEach es env).findIdx? (·.1) = none := by intro _; rfl) : ∀ (s : Shared) (H : Hp) (C : Addr) (cl : List (Str × Addr)) (fp : List Addr), PG (g.X.blk s H scope (compEnvC scope cl C g.X.env) fp) (.Tuple es k pos) (gTup g.X.K n u) :=
  fun s H C cl fp => pg_tup hc (h s H C cl fp) (hn _) (hst _)
theorem bT {c : Bool} {P Q : Prop} (h : c = true) (p : P) : (c = true → P) ∧ (c = false → Q) := ⟨fun _ => p, fun e => absurd (h.symm.trans e) (by decide)⟩
theorem bF {c : Bool} {P Q : Prop} (h : c = false) (p : Q) : (c = true → P) ∧ (c = false → Q) := ⟨fun e => absurd (h.symm.trans e) (by decide), fun _ => p⟩
theorem exLen {d : D} {n : Nat} {P : Nat → Prop} (h : lenD d = some n) (p : P n) : ∃ m, lenD d = some m ∧ P m := ⟨n, h, p⟩
theorem exIx {x y : D} {n : Int} {ds : List D} {d : D} {P : D → Prop} (h1 : y = .int n) (h2 : seqD x = some ds) (h3 : atI ds n = some d) (p : P d) : ∃ n ds d, y = .int n ∧ seqD x = some ds ∧ atI ds n = some d ∧ P d := ⟨n, ds, d, h1, h2, h3, p⟩
theorem exIsi {x y : D} {T C : String} {b : Bool} {P : Bool → Prop} (h1 : tyD x = some T) (h2 : y = .ty C) (h3 : kitB T C = some b) (p : P b) : ∃ T C b, tyD x = some T ∧ y = .ty C ∧ kitB T C = some b ∧ P b := ⟨T, C, b, h1, h2, h3, p⟩
theorem exIn {x y : D} {ds : List D} {P : List D → Prop} (h1 : sc x x = true) (h2 : seqD y = some ds) (h3 : ds.all (sc x) = true) (p : P ds) : ∃ ds, sc x x = true ∧ seqD y = some ds ∧ (∀ d ∈ ds, sc x d = true) ∧ P ds := ⟨ds, h1, h2, sc_all h3, p⟩
theorem leL {n : Nat} {Q : Prop} (h : Nat.ble n 100000 = true) (q : Q) : n ≤ 100000 ∧ Q := ⟨Nat.le_of_ble_eq_true h, q⟩
theorem exIxO {y : D} {ρ : Rho} {i : Nat} {n : Int} {b1 : Bool} {ds : List D} {d : D} {P : D → Prop} (h1 : y = .int n) (h2 : ρ[i]? = some (some (.own b1 (.lst ds)))) (h3 : atI ds n = some d) (p : P d) : ∃ n b1 ds d, y = .int n ∧ ρ[i]? = some (some (.own b1 (.lst ds))) ∧ atI ds n = some d ∧ P d := ⟨n, b1, ds, d, h1, h2, h3, p⟩
theorem exSet {y : D} {ρ : Rho} {i : Nat} {n : Int} {b1 : Bool} {ds : List D} {k : Nat} {P : Bool → List D → Nat → Prop} (h1 : y = .int n) (h2 : ρ[i]? = some (some (.own b1 (.lst ds)))) (h3 : ixN ds.length n = some k) (p : P b1 ds k) : ∃ n b1 ds k, y = .int n ∧ ρ[i]? = some (some (.own b1 (.lst ds))) ∧ ixN ds.length n = some k ∧ P b1 ds k := ⟨n, b1, ds, k, h1, h2, h3, p⟩
theorem exOwn {ρ : Rho} {i : Nat} {Q : Prop} (h : ∃ b u, ρ[i]? = some (some (.own b u))) (q : Q) : (∃ b u, ρ[i]? = some (some (.own b u))) ∧ Q := ⟨h, q⟩
theorem eqOk_nil {ns : List Str} (h : ∀ s ∈ ns, NmOk s) : eqOk (.lst (ns.map .str)) (.lst []) (decide (ns = [])) := by
  refine .inr ⟨⟨?_, ?_⟩, ⟨rfl, by simp [toP, toPs, PyData.depth, PyData.depthAll]⟩, ?_⟩
  · show pds _ = true
    refine pds_all.mpr fun d hd => ?_
    obtain ⟨s, hs, rfl⟩ := List.mem_map.mp hd
    exact (h s hs).str
  · have : ∀ ns : List Str, PyData.depthAll (toPs (ns.map .str)) = 0 := by
      intro ns
      induction ns with
      | nil => simp [toPs, PyData.depthAll]
      | cons s ns ih => simp [toPs, toP, PyData.depthAll, PyData.depth, ih]
    simp [toP, PyData.depth, this]
  · cases ns with
    | nil => simp [eqP, toP, toPs, PyData.eqv, PyData.eqvAll]
    | cons s ns => simp [eqP, toP, toPs, PyData.eqv, PyData.eqvAll]
/-- len of an own list -/
theorem g_lenO {g : G} {ρ : Rho} {x l : Str} {i : Nat} {p p2 pos : Pos} {bb : Bool} {ds : List D} {Q : Rho → D → Prop} (s : SlotV g.X x i) (b : Blt g.X l (.builtin "len")) (ho : ρ[i]? = some (some (.own bb (.lst ds)))) (q : Q ρ (.int (ds.length : Nat)))
    (he : starEach (Expr.Name x p2 :: []) g.X.env = (false, eval (.Name x p2) g.X.env) :: starEach [] g.X.env := by rfl) (hpl : (backTo pos (starEach [] g.X.env)).any (·.1) = false := by rfl) (hl : l = "len" := by rfl) : GoV g (.Call (.Name l p) [.Name x p2] [] pos) ρ Q := by
  subst hl
  have hlt : i < ρ.length := (List.getElem?_eq_some_iff.mp ho).1
  refine g_peek ho (g_len b (g_var s (d := .lst ds) ?_ ⟨ds.length, rfl, rfl, q⟩) he hpl)
  unfold peek
  rw [List.getElem?_set_self (by simpa using hlt)]
  rfl
end FW

set_option Elab.async false
set_option linter.all false
set_option maxRecDepth 100000
set_option maxHeartbeats 4000000
/-! forgetting slots; loops by what holds at each turn -/
namespace FW
open PySem PySem.Spec PyProof.Rows L2
structure Wk (ρ ρ' : Rho) : Prop where
  len : ρ'.length = ρ.length
  val : ∀ (i : Nat) (x : A), ρ'[i]? = some (some x) → ρ[i]? = some (some x)
  par : ∀ (i : Nat) (o : O), ρ[i]? = some (some (.own true o)) → ρ'[i]? = some (some (.own true o))
theorem wk_sat {K : PySem.W.Frag} {H0 H1 : Hp} {σ : L2.St} {ρ ρ' : Rho} (w : Wk ρ ρ') (S : Sat K H0 H1 σ ρ) : Sat K H0 H1 σ ρ' ∧ Step σ ρ H0 H1 σ ρ' H0 H1 := by
  have os : ∀ i p, OwnS σ ρ' i p → OwnS σ ρ i p := fun i p ⟨⟨b, o, e⟩, e2⟩ => ⟨⟨b, o, w.val i _ e⟩, e2⟩
  exact ⟨⟨S.sub, fun i d e => S.val i d (w.val i _ e), fun i b o e => S.own i b o (w.val i _ e), fun i j p h1 h2 => S.dist i j p (os i p h1) (os j p h2), by rw [S.len, w.len]⟩,
    ⟨L2.Same.refl _, fun a o h => .inl h, fun a o h _ => h, fun a h => h, fun a ⟨i, h⟩ => .inl ⟨i, os i a h⟩, fun i p ⟨⟨o, e⟩, e2⟩ => ⟨⟨o, w.par i o e⟩, e2⟩⟩⟩
theorem ws_weak {g : G} {ts : TS} {ρ ρ' : Rho} {D : Dn} (w : Wk ρ ρ') (h : WS g ts ρ' D) : WS g ts ρ D := fun σ H0 H1 S T De q => by
  obtain ⟨S', st⟩ := wk_sat w S
  exact h σ H0 H1 S' (T.step st) De (q.step st)
/-- all is forgotten but the first slots -/
def npB : Option A → Bool
  | some (.own true _) => false
  | _ => true
theorem wk_rest : ∀ {xs rest : Rho}, rest.all npB = true → Wk (xs ++ rest) (xs ++ List.replicate rest.length none) := fun {xs rest} h => by
  refine ⟨by simp, fun i x e => ?_, fun i o e => ?_⟩
  · by_cases z : i < xs.length
    · rw [List.getElem?_append_left z] at e ⊢; exact e
    · rw [List.getElem?_append_right (by omega)] at e
      rw [List.getElem?_replicate] at e
      split at e
      · cases e
      · cases e
  · by_cases z : i < xs.length
    · rw [List.getElem?_append_left z] at e ⊢; exact e
    · rw [List.getElem?_append_right (by omega)] at e
      have := List.all_eq_true.mp h _ (List.mem_of_getElem? e)
      cases this
theorem loop_all {g : G} {t : TG} {body : List Stmt} {nx : Rho → Prop} {rt : Rho → A → Prop} (I : Rho → Prop) : ∀ (ds : List D) (ρ : Rho), (∀ d ∈ ds, ∀ ρ, I ρ → WG g t d ρ fun ρ1 => GoB g body ρ1 ⟨I, rt, nx, I⟩) → (∀ ρ, I ρ → nx ρ) → I ρ → Loop g t body ds ρ nx rt
  | [], ρ, _, hn, h => hn ρ h
  | d :: ds, ρ, hb, hn, h => fun σ H0 H1 S v r Qv k => hb d (List.mem_cons_self ..) ρ h σ H0 H1 S v r Qv fun σ' H0' H1' ρ' st S' q => k σ' H0' H1' ρ' st S'
      (WS.imp q (fun r hr => loop_all I ds r (fun d' hd => hb d' (List.mem_cons_of_mem _ hd)) hn hr) (fun _ _ q => q) (fun _ q => q) fun r hr => loop_all I ds r (fun d' hd => hb d' (List.mem_cons_of_mem _ hd)) hn hr)
theorem ws_rest {g : G} {ts : TS} {x : Option A} {rest : Rho} {m : Nat} {D : Dn} (hr : rest.length = m) (hn : rest.all npB = true) (h : WS g ts (x :: List.replicate m none) D) : WS g ts (x :: rest) D := by
  subst hr
  exact ws_weak (wk_rest (xs := [x]) hn) h
/-- what is known at a turn's end: the first slot -/
def Kept (x : Option A) (m : Nat) (ρ : Rho) : Prop := ∃ rest : Rho, ρ = x :: rest ∧ rest.length = m ∧ rest.all npB = true
/-- a loop whose turns need nothing but the first slot -/
theorem loop_k {g : G} {body : List Stmt} {nx : Rho → Prop} {rt : Rho → A → Prop} {x : Option A} {m : Nat} {ds : List D} {ρ : Rho} (h0 : Kept x (m + 1) ρ)
    (hb : ∀ d ∈ ds, GoB g body (x :: some (.val d) :: List.replicate m none) ⟨Kept x (m + 1), rt, nx, Kept x (m + 1)⟩) (hn : ∀ ρ, Kept x (m + 1) ρ → nx ρ) : Loop g (gName 1) body ds ρ nx rt := by
  refine loop_all (Kept x (m + 1)) ds ρ (fun d hd ρ' hk => ?_) hn h0
  obtain ⟨rest, rfl, hr, ha⟩ := hk
  cases rest with
  | nil => cases hr
  | cons r rest =>
    rw [List.all_cons, Bool.and_eq_true] at ha
    refine wg_name ?_ ?_
    · show npar (x :: r :: rest) 1 = true
      unfold npar
      have h1 := ha.1
      unfold npB at h1
      split at h1
      · cases h1
      · rename_i hne
        split
        · rename_i o e
          simp at e
          exact absurd e (hne o)
        · rfl
    · have hr' : rest.length = m := by simpa using hr
      subst hr'
      exact ws_weak (wk_rest (xs := [x, some (.val d)]) (rest := rest) ha.2) (hb d hd)
/-- the statements behind, by a name -/
theorem b_cut {g : G} {st : Stmt} {rest : List Stmt} {ρ : Rho} {nx : Rho → Prop} {rt : Rho → A → Prop} {bk ct : Rho → Prop} (h : ∀ r, r = rest → GoS g st ρ ⟨fun ρ1 => GoB g r ρ1 ⟨nx, rt, bk, ct⟩, rt, bk, ct⟩) : GoB g (st :: rest) ρ ⟨nx, rt, bk, ct⟩ := b_cons (h rest rfl)
theorem b_sub {g : G} {r l : List Stmt} {ρ : Rho} {D : Dn} (e : r = l) (h : GoB g l ρ D) : GoB g r ρ D := e ▸ h
end FW

set_option Elab.async false
set_option linter.all false
set_option maxRecDepth 100000
set_option maxHeartbeats 4000000
/-! a thing of a hanging exchanged for another: what is felt, how all runs -/
namespace FW
open PySem L2
/-- the thing of that name, exchanged for another -/
def putM (nm : Str) (t : Hg) : Hg → Hg
  | .wt n h => if n = nm then t else .wt n h
  | .pu n own l a r b => if n = nm then t else .pu n own (putM nm t l) a (putM nm t r) b
namespace Hg
theorem names_pu (n : Str) (own : Int) (l : Hg) (a : Int) (r : Hg) (b : Int) : (pu n own l a r b).names = n :: (l.names ++ r.names) := by simp [names, things, nm]
theorem names_wt (n : Str) (h : Int) : (wt n h).names = [n] := rfl
theorem put_wt {nm n : Str} {t : Hg} {h : Int} (e : n = nm) : putM nm t (.wt n h) = t := if_pos e
theorem put_wt' {nm n : Str} {t : Hg} {h : Int} (e : n ≠ nm) : putM nm t (.wt n h) = .wt n h := if_neg e
theorem put_pu {nm n : Str} {t : Hg} {own a b : Int} {l r : Hg} (e : n ≠ nm) : putM nm t (.pu n own l a r b) = .pu n own (putM nm t l) a (putM nm t r) b := if_neg e
theorem put_miss {nm : Str} {t : Hg} : ∀ {h : Hg}, nm ∉ h.names → putM nm t h = h
  | .wt n v, h => put_wt' fun e => h (by rw [names_wt, e]; simp)
  | .pu n own l a r b, h => by
    rw [names_pu] at h
    simp only [List.mem_cons, List.mem_append, not_or] at h
    rw [put_pu (Ne.symm h.1), put_miss h.2.1, put_miss h.2.2]
/-- the thing of the name is a weight of v -/
def Hit (nm : Str) (v : Int) (h : Hg) : Prop := ∀ x ∈ h.things, x.nm = nm → x = .wt nm v
theorem Hit.pu {nm n : Str} {v : Int} {own a b : Int} {l r : Hg} (h : Hit nm v (.pu n own l a r b)) : n ≠ nm ∧ Hit nm v l ∧ Hit nm v r := by
  refine ⟨fun e => ?_, fun x hx => h x ?_, fun x hx => h x ?_⟩
  · have := h (.pu n own l a r b) (List.mem_cons_self ..) e
    cases this
  · exact List.mem_cons_of_mem _ (List.mem_append.mpr (.inl hx))
  · exact List.mem_cons_of_mem _ (List.mem_append.mpr (.inr hx))
theorem Hit.wt {nm n : Str} {v x : Int} (h : Hit nm v (.wt n x)) (e : n = nm) : x = v := by
  have := h (.wt n x) (List.mem_cons_self ..) e
  cases this; rfl
variable {kf : Str → Option Rat}
theorem F_put {nm : Str} {v : Int} {t : Hg} (k0 : kf nm = none) (ht : t.F kf = v) : ∀ {h : Hg}, Hit nm v h → (putM nm t h).F kf = h.F kf
  | .wt n x, hh => by
    by_cases e : n = nm
    · rw [put_wt e, ht, hh.wt e]
      show _ = (kf n).getD _
      rw [e, k0]; rfl
    · rw [put_wt' e]
  | .pu n own l a r b, hh => by
    obtain ⟨e, h1, h2⟩ := hh.pu
    rw [put_pu e]
    show (own : Rat) + 4 * (F kf (putM nm t l) * F kf (putM nm t r)) / (F kf (putM nm t l) + F kf (putM nm t r)) = own + 4 * (F kf l * F kf r) / (F kf l + F kf r)
    rw [F_put k0 ht h1, F_put k0 ht h2]
theorem put_ok {nm : Str} {t : Hg} (ht : t.Ok) : ∀ {h : Hg}, h.Ok → (putM nm t h).Ok
  | .wt n x, ok => by
    by_cases e : n = nm
    · rw [put_wt e]; exact ht
    · rw [put_wt' e]; exact ok
  | .pu n own l a r b, ok => by
    by_cases e : n = nm
    · rw [show putM nm t (.pu n own l a r b) = t from if_pos e]; exact ht
    · rw [put_pu e]
      obtain ⟨o1, o2, o3, o4, o5, o6, o7, o8, o9⟩ := ok
      exact ⟨o1, o2, o3, put_ok ht o4, o5, o6, put_ok ht o7, o8, o9⟩
theorem put_names {nm : Str} {t : Hg} : ∀ {h : Hg} {x : Str}, x ∈ (putM nm t h).names → x ∈ t.names ∨ (x ∈ h.names ∧ x ≠ nm)
  | .wt n v, x, hx => by
    by_cases e : n = nm
    · rw [put_wt e] at hx; exact .inl hx
    · rw [put_wt' e] at hx
      rw [names_wt] at hx
      have : x = n := by simpa using hx
      exact .inr ⟨by rw [names_wt]; exact hx, by rw [this]; exact e⟩
  | .pu n own l a r b, x, hx => by
    by_cases e : n = nm
    · rw [show putM nm t (.pu n own l a r b) = t from if_pos e] at hx; exact .inl hx
    · rw [put_pu e, names_pu] at hx
      rw [names_pu]
      simp only [List.mem_cons, List.mem_append] at hx ⊢
      rcases hx with hx | hx | hx
      · exact .inr ⟨.inl hx, by rw [hx]; exact e⟩
      · rcases put_names hx with q | ⟨q1, q2⟩
        · exact .inl q
        · exact .inr ⟨.inr (.inl q1), q2⟩
      · rcases put_names hx with q | ⟨q1, q2⟩
        · exact .inl q
        · exact .inr ⟨.inr (.inr q1), q2⟩
theorem put_nd {nm : Str} {t : Hg} (ht : t.names.Nodup) : ∀ {h : Hg}, h.names.Nodup → (∀ x ∈ t.names, x ∉ h.names) → (putM nm t h).names.Nodup
  | .wt n v, nd, dj => by
    by_cases e : n = nm
    · rw [put_wt e]; exact ht
    · rw [put_wt' e]; exact nd
  | .pu n own l a r b, nd, dj => by
    by_cases e : n = nm
    · rw [show putM nm t (.pu n own l a r b) = t from if_pos e]; exact ht
    · rw [names_pu] at nd
      obtain ⟨n1, n2⟩ := List.nodup_cons.mp nd
      obtain ⟨n3, n4, n5⟩ := List.nodup_append.mp n2
      have dj' : ∀ x ∈ t.names, x ≠ n ∧ x ∉ l.names ∧ x ∉ r.names := fun x hx => by
        have := dj x hx
        rw [names_pu] at this
        simpa [not_or] using this
      have hl := put_nd (nm := nm) ht n3 fun x hx => (dj' x hx).2.1
      have hr := put_nd (nm := nm) ht n4 fun x hx => (dj' x hx).2.2
      rw [put_pu e, names_pu]
      refine List.nodup_cons.mpr ⟨fun hx => ?_, List.nodup_append.mpr ⟨hl, hr, fun x hx y hy hxy => ?_⟩⟩
      · rcases List.mem_append.mp hx with q | q
        · rcases put_names q with z | ⟨z, _⟩
          · exact (dj' n z).1 rfl
          · exact n1 (List.mem_append.mpr (.inl z))
        · rcases put_names q with z | ⟨z, _⟩
          · exact (dj' n z).1 rfl
          · exact n1 (List.mem_append.mpr (.inr z))
      · subst hxy
        by_cases hm : nm ∈ l.names
        · have hm' : nm ∉ r.names := fun q => n5 nm hm nm q rfl
          rw [put_miss hm'] at hy
          rcases put_names hx with z | ⟨z, _⟩
          · exact (dj' x z).2.2 hy
          · exact n5 x z x hy rfl
        · rw [put_miss hm] at hx
          rcases put_names hy with z | ⟨z, _⟩
          · exact (dj' x z).2.1 hx
          · exact n5 x hx x z rfl
theorem put_nw {nm : Str} {v : Int} {t : Hg} : ∀ {h : Hg}, h.names.Nodup → Hit nm v h → (putM nm t h).nw ≤ h.nw - 1 + t.nw
  | .wt n x, nd, hh => by
    have := t.nw_pos
    by_cases e : n = nm
    · rw [put_wt e]; show t.nw ≤ 1 - 1 + t.nw; omega
    · rw [put_wt' e]; show 1 ≤ 1 - 1 + t.nw; omega
  | .pu n own l a r b, nd, hh => by
    obtain ⟨e, h1, h2⟩ := hh.pu
    rw [names_pu] at nd
    obtain ⟨n1, n2⟩ := List.nodup_cons.mp nd
    obtain ⟨n3, n4, n5⟩ := List.nodup_append.mp n2
    have := t.nw_pos
    have := l.nw_pos
    have := r.nw_pos
    rw [put_pu e]
    show (putM nm t l).nw + (putM nm t r).nw ≤ l.nw + r.nw - 1 + t.nw
    by_cases hm : nm ∈ l.names
    · have hm' : nm ∉ r.names := fun q => n5 nm hm nm q rfl
      have := put_nw (t := t) n3 h1
      rw [put_miss hm']
      omega
    · have := put_nw (t := t) n4 h2
      rw [put_miss hm]
      omega
theorem put_rows {nm : Str} {v : Int} {t : Hg} (k0 : kf nm = none) (ht : t.F kf = v) : ∀ {h : Hg}, Hit nm v h → ∀ (s p : Rat) (x : Str × Rat × Rat), x ∈ runsM kf h s p →
    (x.1 ≠ nm → x ∈ runsM kf (putM nm t h) s p) ∧ (x.1 = nm → ∀ y ∈ runsM kf t x.2.1 x.2.2, y ∈ runsM kf (putM nm t h) s p)
  | .wt n w, hh, s, p, x, hx => by
    have ex : x = (n, s, p) := List.mem_singleton.mp hx
    by_cases e : n = nm
    · rw [put_wt e]
      subst ex
      exact ⟨fun z => absurd e z, fun _ y hy => hy⟩
    · rw [put_wt' e]
      subst ex
      exact ⟨fun _ => hx, fun z => absurd z e⟩
  | .pu n own l a r b, hh, s, p, x, hx => by
    obtain ⟨e, h1, h2⟩ := hh.pu
    have f1 := F_put (t := t) k0 ht h1
    have f2 := F_put (t := t) k0 ht h2
    rw [put_pu e]
    simp only [runsM, f1, f2] at hx ⊢
    rcases List.mem_cons.mp hx with q | hx
    · subst q
      exact ⟨fun _ => List.mem_cons_self .., fun z => absurd z e⟩
    · rcases List.mem_append.mp hx with q | q
      · obtain ⟨a1, a2⟩ := put_rows k0 ht h1 _ _ x q
        exact ⟨fun z => List.mem_cons_of_mem _ (List.mem_append.mpr (.inl (a1 z))), fun z y hy => List.mem_cons_of_mem _ (List.mem_append.mpr (.inl (a2 z y hy)))⟩
      · obtain ⟨a1, a2⟩ := put_rows k0 ht h2 _ _ x q
        exact ⟨fun z => List.mem_cons_of_mem _ (List.mem_append.mpr (.inr (a1 z))), fun z y hy => List.mem_cons_of_mem _ (List.mem_append.mpr (.inr (a2 z y hy)))⟩
theorem put_back {nm : Str} {v : Int} {t : Hg} (k0 : kf nm = none) (ht : t.F kf = v) : ∀ {h : Hg}, Hit nm v h → ∀ (s p : Rat) (x : Str × Rat × Rat), x ∈ runsM kf (putM nm t h) s p → x.1 ∉ t.names → x ∈ runsM kf h s p
  | .wt n w, hh, s, p, x, hx, hn => by
    by_cases e : n = nm
    · rw [put_wt e] at hx
      exact absurd (by rw [← runs_names kf t s p]; exact List.mem_map_of_mem hx) hn
    · rw [put_wt' e] at hx; exact hx
  | .pu n own l a r b, hh, s, p, x, hx, hn => by
    obtain ⟨e, h1, h2⟩ := hh.pu
    have f1 := F_put (t := t) k0 ht h1
    have f2 := F_put (t := t) k0 ht h2
    rw [put_pu e] at hx
    simp only [runsM, f1, f2] at hx ⊢
    rcases List.mem_cons.mp hx with q | hx
    · rw [q]; exact List.mem_cons_self ..
    · rcases List.mem_append.mp hx with q | q
      · exact List.mem_cons_of_mem _ (List.mem_append.mpr (.inl (put_back k0 ht h1 _ _ x q hn)))
      · exact List.mem_cons_of_mem _ (List.mem_append.mpr (.inr (put_back k0 ht h2 _ _ x q hn)))
theorem felt_mono {own p q p' q' : Rat} (hp : 0 < p) (hq : 0 < q) (h1 : p ≤ p') (h2 : q ≤ q') (h : p < p' ∨ q < q') : own + 4 * (p * q) / (p + q) < own + 4 * (p' * q') / (p' + q') := by
  have d1 : 0 < p + q := by grind
  have d2 : 0 < p' + q' := by grind
  have key : p * q * (p' + q') < p' * q' * (p + q) := by
    have a1 : 0 ≤ p' - p := by grind
    have a2 : 0 ≤ q' - q := by grind
    have e : p' * q' * (p + q) - p * q * (p' + q') = (q * q') * (p' - p) + (p * p') * (q' - q) := by grind
    have b1 : 0 < q * q' := Rat.mul_pos hq (by grind)
    have b2 : 0 < p * p' := Rat.mul_pos hp (by grind)
    have c1 : 0 ≤ (q * q') * (p' - p) := Rat.mul_nonneg (by grind) a1
    have c2 : 0 ≤ (p * p') * (q' - q) := Rat.mul_nonneg (by grind) a2
    rcases h with h | h
    · have : 0 < (q * q') * (p' - p) := Rat.mul_pos b1 (by grind)
      grind
    · have : 0 < (p * p') * (q' - q) := Rat.mul_pos b2 (by grind)
      grind
  have i1 : (p + q) * (p + q)⁻¹ = 1 := Rat.mul_inv_cancel _ (by grind)
  have i2 : (p' + q') * (p' + q')⁻¹ = 1 := Rat.mul_inv_cancel _ (by grind)
  have j1 : 0 < (p + q)⁻¹ := Rat.inv_pos.mpr d1
  have j2 : 0 < (p' + q')⁻¹ := Rat.inv_pos.mpr d2
  have k := Rat.mul_pos j1 j2
  have m : (p * q * (p' + q')) * ((p + q)⁻¹ * (p' + q')⁻¹) < (p' * q' * (p + q)) * ((p + q)⁻¹ * (p' + q')⁻¹) := Rat.mul_lt_mul_of_pos_right key k
  simp only [Rat.div_def]
  clear key k j1 j2 d1 d2 h h1 h2 hp hq
  generalize (p + q)⁻¹ = A at *
  generalize (p' + q')⁻¹ = B at *
  have eL : (p * q * (p' + q')) * (A * B) = p * q * A := by
    have : (p * q * (p' + q')) * (A * B) = p * q * A * ((p' + q') * B) := by grind
    rw [this, i2, Rat.mul_one]
  have eR : (p' * q' * (p + q)) * (A * B) = p' * q' * B := by
    have : (p' * q' * (p + q)) * (A * B) = p' * q' * B * ((p + q) * A) := by grind
    rw [this, i1, Rat.mul_one]
  rw [eL, eR] at m
  have e1 : 4 * (p * q) * A = 4 * (p * q * A) := by grind
  have e2 : 4 * (p' * q') * B = 4 * (p' * q' * B) := by grind
  rw [e1, e2]
  generalize p * q * A = X at m ⊢
  generalize p' * q' * B = Y at m ⊢
  grind
theorem F_more {nm : Str} {v : Int} {t : Hg} (hk : KOk kf) (k0 : kf nm = none) (ht : (v : Rat) < t.F kf) : ∀ {h : Hg}, h.Ok → h.names.Nodup → Hit nm v h → nm ∈ h.names → h.F kf < (putM nm t h).F kf
  | .wt n x, ok, nd, hh, hm => by
    have e : n = nm := by rw [names_wt] at hm; exact (List.mem_singleton.mp hm).symm
    rw [put_wt e]
    show (kf n).getD _ < _
    rw [e, k0, hh.wt e]
    exact ht
  | .pu n own l a r b, ok, nd, hh, hm => by
    obtain ⟨e, h1, h2⟩ := hh.pu
    obtain ⟨o1, o2, o3, o4, o5, o6, o7, o8, o9⟩ := ok
    rw [names_pu] at nd hm
    obtain ⟨n1, n2⟩ := List.nodup_cons.mp nd
    obtain ⟨n3, n4, n5⟩ := List.nodup_append.mp n2
    rw [put_pu e]
    show (own : Rat) + 4 * (F kf l * F kf r) / (F kf l + F kf r) < own + 4 * (F kf (putM nm t l) * F kf (putM nm t r)) / (F kf (putM nm t l) + F kf (putM nm t r))
    have p1 := F_pos hk o4
    have p2 := F_pos hk o7
    by_cases hl : nm ∈ l.names
    · have hr : nm ∉ r.names := fun q => n5 nm hl nm q rfl
      rw [put_miss hr]
      have q := F_more hk k0 ht o4 n3 h1 hl
      exact felt_mono p1 p2 (by grind) (by grind) (.inl q)
    · have hr : nm ∈ r.names := by
        rcases List.mem_cons.mp hm with z | z
        · exact absurd z.symm e
        · rcases List.mem_append.mp z with z | z
          · exact absurd z hl
          · exact z
      rw [put_miss hl]
      have q := F_more hk k0 ht o7 n4 h2 hr
      exact felt_mono p1 p2 (by grind) (by grind) (.inr q)
/-- in a hanging of different names, a weight is the one thing of its name -/
theorem hit_of : ∀ {h : Hg} {n : Str} {v : Int}, h.names.Nodup → .wt n v ∈ h.things → Hit n v h := fun {h n v} nd m x hx e => by
  have key : ∀ (l : List Hg), (l.map Hg.nm).Nodup → ∀ a ∈ l, ∀ b ∈ l, a.nm = b.nm → a = b := by
    intro l
    induction l with
    | nil => intro _ a ha; cases ha
    | cons c l ih =>
      intro nd a ha b hb e
      rw [List.map_cons, List.nodup_cons] at nd
      rcases List.mem_cons.mp ha with z1 | ha'
      · rcases List.mem_cons.mp hb with z2 | hb'
        · rw [z1, z2]
        · exact absurd (by rw [← z1, e]; exact List.mem_map_of_mem hb') nd.1
      · rcases List.mem_cons.mp hb with z2 | hb'
        · exact absurd (by rw [← z2, ← e]; exact List.mem_map_of_mem ha') nd.1
        · exact ih nd.2 a ha' b hb' e
  exact key h.things nd x hx (.wt n v) m e
end Hg
end FW

set_option Elab.async false
set_option linter.all false
set_option maxRecDepth 100000
set_option maxHeartbeats 4000000
/-! the law's own call -/
namespace FW
open PySem PySem.Spec PyProof.Rows L2
theorem reps_ints {K : PySem.W.Frag} {H : Hp} : ∀ ns : List Int, Reps K H (ns.map V.int) (ns.map .int)
  | [] => rfl
  | n :: ns => ⟨_, _, rfl, rfl, reps_ints ns⟩
theorem sp_top {K : PySem.W.Frag} {H : Hp} {a : Addr} {ns : List Int} {S : FSp} (hS : SqL K H a (ns.map V.int)) (h : S [.val (.rdl (ns.map .int))] (fun _ a => a = .val (.bl true)) (fun _ _ => False)) : SpOf K S [.ref a] H (fun v _ => v = .bl true) (fun _ _ _ => False) := by
  refine ⟨H, _, _, _, ⟨L2.Same.refl _, fun i d e => ?_, fun i b o e => ?_, fun i j p ⟨⟨b, o, e⟩, _⟩ _ => (by cases i <;> simp at e), rfl⟩, fun b o m => ?_, h, fun v H0' H' as' a st S r e => ?_, fun C H0' H' as' st S z => z⟩
  · cases i with
    | zero =>
      simp at e
      subst e
      exact ⟨.ref a, rfl, a, _, rfl, hS, reps_ints ns⟩
    | succ i => simp at e
  · cases i with
    | zero => simp at e
    | succ i => simp at e
  · simp at m
  · subst e
    exact r
theorem top_tup2 {K : PySem.W.Frag} {mg : Str → Option Value} {x : Str} {r : Addr} {od : Option Addr} {m n : Int} {t u : Tok} {z : Nat} {sl : Array (Option Value)} (hm : mg x = some (.ref r)) (l : K.lookup r = some ⟨.type "tuple", od, .seq #[.int m t, .int n u] z, sl⟩) :
    ∃ u v, mg x = some u ∧ RelV v u ∧ ∀ H, Rep K H v (.tup [.int m, .int n]) :=
  ⟨_, .ref r, hm, rfl, fun H => ⟨r, [.int m, .int n], rfl, .inr ⟨_, _, _, l, rfl, rfl, by show 2 ≤ sizeLine; decide, .cons ⟨t, rfl⟩ (.cons ⟨u, rfl⟩ .nil)⟩, ⟨_, _, rfl, rfl, ⟨_, _, rfl, rfl, rfl⟩⟩⟩⟩
theorem top_int {K : PySem.W.Frag} {mg : Str → Option Value} {x : Str} {m : Int} {t : Tok} (hm : mg x = some (.int m t)) : ∃ u v, mg x = some u ∧ RelV v u ∧ ∀ H, Rep K H v (.int m) := ⟨_, .int m, hm, ⟨t, rfl⟩, fun _ => rfl⟩
theorem top_str {K : PySem.W.Frag} {mg : Str → Option Value} {x : Str} {m : Str} {t : Tok} (hm : mg x = some (.str m t)) : ∃ u v, mg x = some u ∧ RelV v u ∧ ∀ H, Rep K H v (.str m) := ⟨_, .str m, hm, ⟨t, rfl⟩, fun _ => rfl⟩
end FW

set_option Elab.async false
set_option linter.all false
set_option maxRecDepth 100000
set_option maxHeartbeats 4000000
/-! more rules: dict displays, update, == of dicts, dicts walked, two own objects at once -/
namespace FW
open PySem PySem.Spec PyProof.Rows L2

/-! ### a new object that stands in no slot yet -/
section
variable {K : PySem.W.Frag} {σ : L2.St} {ρ ρ' : Rho} {H0 H1 H0' H1' : Hp} {p : Addr} {u u0 : HO}
theorem sat_float (S : Sat K H0 H1 σ ρ) (h0 : H0 p = none) (hc : ¬ Cell σ ρ p) : Sat K H0 (upd H1 p u) σ ρ := by
  refine ⟨fun a o q => ?_, S.val, fun i b o q => ?_, S.dist, S.len⟩
  · rw [upd_ne (ne_of_none q h0)]; exact S.sub a o q
  · obtain ⟨a, h1, h2, h3⟩ := S.own i b o q
    have ne : a ≠ p := fun z => hc ⟨i, ⟨b, o, q⟩, by rw [← z]; exact h1⟩
    exact ⟨a, h1, h2, h3.up (L2.Same.refl _) fun u q => by rw [upd_ne ne]; exact q⟩
theorem step_float (st : Step σ ρ H0 (upd H1 p u0) σ ρ' H0' H1') (h : H1 p = none) (h0 : H0' p = none) : Step σ ρ H0 H1 σ ρ' H0' (upd H1' p u) := by
  refine ⟨st.kn, fun a o q => ?_, fun a o q hc => ?_, fun a q => ?_, fun a q => ?_, st.par⟩
  · rcases st.new a o q with z | z | z
    · exact .inl z
    · refine .inr (.inl ?_)
      by_cases e : a = p
      · rw [e]; exact h
      · rw [upd_ne e] at z; exact z
    · exact .inr (.inr z)
  · have e : a ≠ p := ne_of_none q h
    rw [upd_ne e]
    exact st.fr a o (by rw [upd_ne e]; exact q) hc
  · by_cases e : a = p
    · rw [e]; exact h
    · rw [upd_ne e] at q
      have := st.dom a q
      rw [upd_ne e] at this
      exact this
  · rcases st.cell a q with z | z
    · exact .inl z
    · by_cases e : a = p
      · rw [e]; exact .inr h
      · rw [upd_ne e] at z; exact .inr z
/-- a floating object is kept by a step -/
theorem float_kept (st : Step σ ρ H0 H1 σ ρ' H0' H1') (h0 : H0 p = none) (hp : H1 p = some u) (hc : ¬ Cell σ ρ p) : H0' p = none ∧ H1' p = some u ∧ ¬ Cell σ ρ' p := by
  refine ⟨?_, st.fr p u hp hc, fun c => ?_⟩
  · cases e : H0' p with
    | none => rfl
    | some z =>
      rcases st.new p z e with w | w | w
      · rw [h0] at w; cases w
      · rw [hp] at w; cases w
      · exact (hc w).elim
  · rcases st.cell p c with w | w
    · exact hc w
    · rw [hp] at w; cases w
end

section
variable {g : G} {k : Nat} {ρ : Rho} {a b c e : Expr} {es : List Expr} {pos p p2 apos : Pos} {j i : Nat} {x : Str} {Q : Rho → D → Prop} {R : Rho → Bool → Prop}
/-- {a: b} -/
theorem g_disp1 {Q : Rho → A → Prop} (h : GoV g a ρ fun ρ1 x => ∃ s, x = .str s ∧ GoV g b ρ1 fun ρ2 y => Q ρ2 (.own false (.dic [s] [y]))) : GoE g (.Dict [some a] [b] pos) ρ Q :=
  e_of (pe_disp (pps_cons pX pX pps_nil) rfl rfl (fun z => by cases z) (by show 1 ≤ 15; decide)) fun σ H0 H1 S T Qv kk p hp => by
    obtain ⟨S0, s0, h00, hc0⟩ := sat_mine (u := .dK []) S hp
    refine h σ H0 _ S0 (T.step s0) _ fun v H01 H11 ρ1 d st1 S1 r1 ⟨s, e1, q1⟩ => ?_
    subst e1
    cases (show v = _ from r1)
    obtain ⟨f1, f2, f3⟩ := float_kept st1 h00 upd_same hc0
    refine q1 σ H01 H11 S1 ((T.step s0).step st1) _ fun u H02 H12 ρ2 y st2 S2 r2 q2 => ?_
    obtain ⟨f4, f5, f6⟩ := float_kept st2 f1 f2 f3
    refine ⟨f5, [(Sum.inr s, u)], rfl, (by show 1 ≤ 15; decide), ?_⟩
    refine kk _ _ _ ρ2 _ (step_float (st1.trans st2) hp f4) (sat_float S2 f4 f6) ?_ q2
    exact ⟨p, rfl, f4, hp, f6, [(Sum.inr s, u)], upd_same, rfl, ⟨u, [], rfl, r2, rfl⟩⟩
/-! ### update -/
def rUpd : V → List V → Hp → VK → Prop := fun x vs H Q => ∃ a b ks ls, x = .ref a ∧ vs = [.ref b] ∧ a ≠ b ∧ H a = some (.dK ks) ∧ Rd H b (.dK ls) ∧ ks.length + ls.length ≤ sizeLine ∧ Q .non (upd H a (.dK (mergeK ks ls)))
theorem mt_update {X : Cx} : MtR X "dict.update" rUpd := by
  intro pins s σ H x vs v us Q I rx rv h
  obtain ⟨a, b, ks, ls, rfl, rfl, ne, ha, hb, hz, q⟩ := h
  cases rx
  obtain ⟨u, rfl, ru⟩ := rv.one
  cases ru
  obtain ⟨z1, hs1, va, ra, da⟩ := dk_of I.hok ha
  obtain ⟨z2, hs2, vb, rb, db⟩ := dk_rd I.hok hb
  refine call_meetsIn PySem.F.slot_dict_update da.typeIs PySem.F.entry_dict_update (PySem.F.args_dict_update_2 _ _) (meets_dict_update (mixKind X.prog X.w) a b ne hs2) ⟨va, vb, da, db, by rw [← ra.length, ← rb.length]; exact hz, fun h' d1 d2 hs => ⟨.non, _, ?_, rfl, q⟩⟩
  have hz' : (mergeK ks ls).length ≤ sizeLine := Nat.le_trans (length_mergeK ls ks) hz
  have he : ∃ q, h'.get? a = some q := let ⟨q, _, _, hq, _⟩ := d1; ⟨q, hq⟩
  exact d_write (t' := s.toks) I (by rw [ha]; exact True.intro) hs he (dk_new hz' hs1 (rb.merge ra) d1)
/-- own.update(e), new keys alone -/
theorem g_update (s : SlotV g.X x i) {bb : Bool} {ks0 : List Str} {ds0 : List D} (ho : ρ[i]? = some (some (.own bb (.dic ks0 ds0)))) (h : GoV g e ρ fun ρ1 y => ∃ b1 ks ds ls es, y = .dic ls es ∧ ρ1[i]? = some (some (.own b1 (.dic ks ds))) ∧ (ks ++ ls).Nodup ∧ (ks ++ ls).length ≤ 100000 ∧ Q (ρ1.set i (some (.own b1 (.dic (ks ++ ls) (ds ++ es))))) .non)
    (m : Mth g.X (.Name x p) "update" apos [e] pos := by exact ⟨rfl, rfl, rfl⟩) (hs : starEach (e :: []) g.X.env = (false, eval e g.X.env) :: starEach [] g.X.env := by rfl) (hplain : (backTo pos (starEach [] g.X.env)).any (·.1) = false := by rfl) : GoV g (.Call (.Attribute (.Name x p) "update" apos) [e] [] pos) ρ Q :=
  v_of (pe_bm PySem.F.plainAttrs_dict PySem.F.slot_dict_update PySem.F.type_dict_update mt_update (pe_var s.hN s.hv s.hd s.hc) (pa_cons pX pa_nil hs) m.base m.few m.line hs hplain) fun σ H0 H1 S T Qv kk => by
    obtain ⟨pp, h1, h2, ws0, k01, k02⟩ := S.own i bb _ ho
    refine ⟨.ref pp, h1, .inr (.inr (.inl ⟨rfl, .inl ⟨ws0, k01⟩⟩)), h σ H0 H1 S T _ fun v H0' H1' ρ' y st S' r ⟨b1, ks, ds, ls, es, e1, e2, nd, hl, q⟩ => ?_⟩
    subst e1
    obtain ⟨qq, us, rfl, hq, hk, rr⟩ := r
    obtain ⟨p2, k1, k2, vs, k3, k4, k5⟩ := S'.own i b1 _ e2
    rw [h1] at k1; cases k1
    have hne : pp ≠ qq := fun z => by
      subst z
      rcases hq with z | ⟨o, z⟩
      · rw [k2] at z; cases z
      · rw [k2] at z; cases z
    have nd' : (vs.map (·.1) ++ us.map (·.1)).Nodup := by
      rw [k4, hk, ← List.map_append]
      exact inr_nodup nd
    have hm : mergeK vs us = vs ++ us := mergeK_new us vs nd'
    have l1 : vs.length = ks.length := by rw [← List.length_map (f := (·.1)), k4, List.length_map]
    have l2 : us.length = ls.length := by rw [← List.length_map (f := (·.1)), hk, List.length_map]
    obtain ⟨S2, s2⟩ := sat_write (u := .dK (vs ++ us)) (o' := .dic (ks ++ ls) (ds ++ es)) S' e2 h1 ⟨_, upd_same, by rw [List.map_append, List.map_append, k4, hk], by rw [List.map_append]; exact k5.append rr⟩
    refine ⟨pp, qq, vs, us, rfl, rfl, hne, k3, Same.rd S'.sub hq, ?_, ?_⟩
    · rw [List.length_append] at hl
      rw [l1, l2]
      exact Nat.le_trans hl (by decide)
    · rw [hm]
      exact kk _ _ _ _ _ (st.trans s2) S2 rep_nn q
/-! ### == of dicts that are equal -/
def rDicT (K : PySem.W.Frag) (r : Bool) : R2 := fun x y H Q => ∃ a b ks ls, x = .ref a ∧ y = .ref b ∧ Rd H a (.dK ks) ∧ Rd H b (.dK ls) ∧ ks.length = ls.length ∧
  (∀ p ∈ ks, ∃ v d e, valV ls p.1 = some v ∧ Dp K H p.2 d ∧ Dp K H v e ∧ SeqAt.shaped d = true ∧ SeqAt.shaped e = true ∧ PyData.eqv d e = true) ∧ Q (.bl r) H
theorem dic_hits {X : Cx} {pins : List (Addr × Obj)} {s : Shared} {σ : L2.St} {H : Hp} {ls : List (Key × V)} {vb : List (Key × Value)} {Ar : Around} (I : Inv X pins σ H s) (hu : Ar.units + 64 < cLine) (rb : KV ls vb) : ∀ {ks : List (Key × V)} {va : List (Key × Value)}, KV ks va →
    (∀ p ∈ ks, ∃ v d e, valV ls p.1 = some v ∧ Dp X.K H p.2 d ∧ Dp X.K H v e ∧ SeqAt.shaped d = true ∧ SeqAt.shaped e = true ∧ PyData.eqv d e = true) → PySem.W.KeqHits Ar s vb va true := by
  intro ks va r
  unfold KV at r
  induction r with
  | nil => intro _; exact .nil
  | @cons p q ps qs h t ih =>
    intro hp
    obtain ⟨v, d, e, h1, h2, h3, h4, h5, h6⟩ := hp p (List.mem_cons_self ..)
    have rl := rb.val p.1
    rw [h1] at rl
    obtain ⟨k', u'⟩ := q
    obtain ⟨e1, e2⟩ := h
    have e1' : p.1 = k' := e1
    cases hv : valueAt vb p.1 with
    | none => rw [hv] at rl; exact rl.elim
    | some y =>
      rw [hv] at rl
      obtain ⟨as, r1⟩ := Dp.reads I d _ _ h2 e2
      obtain ⟨bs, r2⟩ := Dp.reads I e _ _ h3 rl
      have h7 := SeqAt.depth_of_shaped h4
      have he := SeqAt.eqAt_reads d e Ar s _ _ as bs r1 r2 (SeqAt.canLay_of_shaped h4) (SeqAt.canLay_of_shaped h5) (by omega)
      rw [h6] at he
      have := PySem.W.KeqHits.hit (b := true) (k := k') (v := u') (by rw [← e1']; exact hv) he (ih fun p' q' => hp p' (List.mem_cons_of_mem _ q'))
      exact this
theorem op_eq_dicT {X : Cx} (hu : X.A.units + 70 < cLine) : OpR X (compareOp .Eq) (rDicT X.K true) := by
  intro pins s σ H x y v u Q I rx ry h
  obtain ⟨a, b, ks, ls, rfl, rfl, ea, eb, hlen, hp, q⟩ := h
  obtain rfl : v = Value.ref a := rx
  obtain rfl : u = Value.ref b := ry
  obtain ⟨_, ya, va, ra, da⟩ := dk_rd I.hok ea
  obtain ⟨_, yb, vb, rb, db⟩ := dk_rd I.hok eb
  have hl : va.length = vb.length := by rw [← ra.length, ← rb.length]; exact hlen
  exact PySem.W.keq_eq (knd := mixKind X.prog X.w) (r := true) ya yb da db (by omega) (fun _ => dic_hits I (by show X.A.units + 1 + 64 < cLine; omega) rb ra hp) (fin_bl I q (by simp [hl]))
theorem op_ne_dicT {X : Cx} (hu : X.A.units + 70 < cLine) : OpR X (compareOp .NotEq) (rDicT X.K false) := by
  intro pins s σ H x y v u Q I rx ry h
  obtain ⟨a, b, ks, ls, rfl, rfl, ea, eb, hlen, hp, q⟩ := h
  obtain rfl : v = Value.ref a := rx
  obtain rfl : u = Value.ref b := ry
  obtain ⟨_, ya, va, ra, da⟩ := dk_rd I.hok ea
  obtain ⟨_, yb, vb, rb, db⟩ := dk_rd I.hok eb
  have hl : va.length = vb.length := by rw [← ra.length, ← rb.length]; exact hlen
  exact PySem.W.keq_ne (knd := mixKind X.prog X.w) (r := true) ya yb da db (by omega) (fun _ => dic_hits I (by show X.A.units + 1 + 64 < cLine; omega) rb ra hp) (fin_bl I q (by simp [hl]))
structure DicEq (ks : List Str) (xs : List D) (ls : List Str) (ys : List D) : Prop where
  len : ks.length = ls.length
  at' : ∀ p ∈ ks.zip xs, ∃ y, dG ls ys p.1 = some y ∧ cmpD p.2 ∧ cmpD y ∧ eqP p.2 y = true
theorem zip_at {K : PySem.W.Frag} {H : Hp} : ∀ {ws : List (Key × V)} {ks : List Str} {xs : List D}, ws.map (·.1) = ks.map Sum.inr → Reps K H (ws.map (·.2)) xs → ∀ p ∈ ws, ∃ s x, (s, x) ∈ ks.zip xs ∧ p.1 = Sum.inr s ∧ Rep K H p.2 x
  | [], _, _, _, _, p, h => by cases h
  | w :: ws, [], _, h, _, _, _ => by cases h
  | w :: ws, k :: ks, [], _, r, _, _ => by cases (show w.2 :: ws.map (·.2) = [] from r)
  | w :: ws, k :: ks, x :: xs, h, ⟨v, rr, e1, e2, e3⟩, p, hp => by
    have h' := List.cons.inj h
    obtain ⟨e4, e5⟩ := List.cons.inj (show w.2 :: ws.map (·.2) = v :: rr from e1)
    subst e4; subst e5
    rcases List.mem_cons.mp hp with z | z
    · subst z; exact ⟨k, x, List.mem_cons_self .., h'.1, e2⟩
    · obtain ⟨s, y, m, q⟩ := zip_at h'.2 e3 p z
      exact ⟨s, y, List.mem_cons_of_mem _ m, q⟩
theorem rv_dicT {r : Bool} {ks ls : List Str} {xs ys : List D} (h : DicEq ks xs ls ys) (q : Q ρ (.bl r)) : RV g (rDicT g.X.K r) (.dic ks xs) (.dic ls ys) ρ Q := fun σ H0 H1 S T v u ⟨a, ws, e1, e2, e3, e4⟩ ⟨b, zs, f1, f2, f3, f4⟩ Qv kk => by
  subst e1; subst f1
  have l1 : ws.length = ks.length := by rw [← List.length_map (f := (·.1)), e3, List.length_map]
  have l2 : zs.length = ls.length := by rw [← List.length_map (f := (·.1)), f3, List.length_map]
  refine ⟨a, b, ws, zs, rfl, rfl, Same.rd S.sub e2, Same.rd S.sub f2, by rw [l1, l2]; exact h.len, fun p hp => ?_, kk _ _ _ _ _ Step.refl S rep_bl q⟩
  obtain ⟨s, x, m, e5, e6⟩ := zip_at e3 e4 p hp
  obtain ⟨y, y1, y2, y3, y4⟩ := h.at' _ m
  rcases dG_rep s ls ys zs f3 f4 with ⟨z, _⟩ | ⟨d', w, z1, z2, z3⟩
  · have y1' : dG ls ys s = some y := y1
    rw [z] at y1'; cases y1'
  · have y1' : dG ls ys s = some y := y1
    rw [y1'] at z1; cases z1
    exact ⟨w, toP x, toP y, by rw [e5]; exact z2, rep_dp S.sub _ _ y2.1 e6, rep_dp S.sub _ _ y3.1 z3, y2.shaped, y3.shaped, y4⟩
theorem t_neDic (ct : Ct g.X k) (h : GoV g a ρ fun ρ1 x => GoV g b ρ1 fun ρ2 y => ∃ ks xs ls ys, x = .dic ks xs ∧ y = .dic ls ys ∧ DicEq ks xs ls ys ∧ R ρ2 false) : GoT g (.Compare a [.NotEq] [b] pos) ρ R :=
  c_test (op_ne_dicT (by have := Room.u ct.room; omega)) (h.imp fun r d h' => h'.imp fun r' d' ⟨ks, xs, ls, ys, e1, e2, s, q⟩ => by subst e1; subst e2; exact rv_dicT s ⟨_, rfl, q⟩) (nomark _)
/-! ### dict(own) -/
theorem g_dictO {y : Str} {bb : Bool} {ps : List (Str × D)} {p3 : Pos} {Q : Rho → A → Prop} (ct : Ct g.X k) (s : Blt g.X x (.type "dict")) (v : SlotV g.X y i) (ho : ρ[i]? = some (some (.own bb (.lst (prs ps))))) (nd : (ps.map (·.1)).Nodup) (q : Q ρ (.own false (.dic (ps.map (·.1)) (ps.map (·.2)))))
    (he : starEach (.Name y p3 :: []) g.X.env = (false, eval (.Name y p3) g.X.env) :: starEach [] g.X.env := by rfl) (hpl : (backTo pos (starEach [] g.X.env)).any (·.1) = false := by rfl) : GoE g (.Call (.Name x p) [.Name y p3] [] pos) ρ Q :=
  e_of (pe_callTy (call_dictP ct.calm) s.hg s.hm s.hv (pa_cons (pe_var v.hN v.hv v.hd v.hc) pa_nil he) s.hn s.hd he hpl) fun σ H0 H1 S T Qv kk => by
    obtain ⟨pp, h1, h2, vs, k1, k2⟩ := S.own i bb _ ho
    obtain ⟨as, kvs, z1, z2, z3, z4⟩ := prs_reps S.sub ps vs k2
    subst z1
    refine ⟨.ref pp, h1, pp, as, kvs, rfl, SqL.of k1, z2, fun l hl => ?_⟩
    rw [mergeK_new kvs [] (by rw [List.map_nil, List.nil_append, z3]; exact inr_nodup nd), List.nil_append]
    obtain ⟨S4, s4, h0, hc⟩ := sat_mine (u := .dK kvs) S hl
    exact kk _ _ _ ρ _ s4 S4 (res_dic h0 hl hc upd_same z3 z4) q
end

/-! ### two own objects at once -/
section
variable {K : PySem.W.Frag} {σ σ0 : L2.St} {ρ ρ0 ρ' : Rho} {H0 H1 H0' H1' Hb H00 : Hp} {i : Nat}
/-- a result that is still to be stored -/
def Fl (K : PySem.W.Frag) (σ : L2.St) (ρ : Rho) (Hb H0 H1 : Hp) (v : V) : A → Prop
  | .val d => Rep K H0 v d
  | .own _ o => ∃ p u, v = .ref p ∧ H0 p = none ∧ Hb p = none ∧ ¬ Cell σ ρ p ∧ H1 p = some u ∧ OwnAt K H0 H1 p o
theorem Fl.of {v : V} {a : A} (r : Res K Hb σ ρ H0 H1 v a) : Fl K σ ρ Hb H0 H1 v a := by
  cases a with
  | val d => exact r
  | own b o =>
    obtain ⟨p, e, h0, hb, hc, w⟩ := r
    obtain ⟨u, hu, _⟩ := w.there
    exact ⟨p, u, e, h0, hb, hc, hu, w⟩
theorem Fl.step {v : V} {a : A} (f : Fl K σ ρ Hb H0 H1 v a) (st : Step σ ρ H0 H1 σ ρ' H0' H1') : Fl K σ ρ' Hb H0' H1' v a := by
  cases a with
  | val d => exact Rep.mono st.kn f
  | own b o =>
    obtain ⟨p, u, e, h0, hb, hc, hu, w⟩ := f
    obtain ⟨f1, f2, f3⟩ := float_kept st h0 hu hc
    exact ⟨p, u, e, f1, hb, f3, f2, w.up st.kn fun u' q => by rw [hu] at q; cases q; exact f2⟩
theorem fl_set {v : V} {a : A} (S : Sat K H0 H1 σ ρ) (st : Step σ0 ρ0 H00 Hb σ ρ H0 H1) (f : Fl K σ ρ Hb H0 H1 v a) (np : npar ρ i = true) : Sat K H0 H1 (σ.set i (some v)) (ρ.set i (some a.loc)) ∧ Step σ0 ρ0 H00 Hb (σ.set i (some v)) (ρ.set i (some a.loc)) H0 H1 := by
  cases a with
  | val d => exact ⟨sat_set S f, st.trans (step_set np)⟩
  | own b o =>
    obtain ⟨p, u, rfl, h0, hb, hc, hu, w⟩ := f
    exact ⟨sat_setO S h0 hc w, step_setO st np hb⟩
theorem fl_past {v v2 : V} {a a2 : A} (ne : ∀ p, v = .ref p → v2 = .ref p → (∃ b o, a2 = .own b o) → (∃ b o, a = .own b o) → False) (f2 : Fl K σ ρ Hb H0 H1 v2 a2) (f : Fl K σ ρ Hb H0 H1 v a) : Fl K (σ.set i (some v)) (ρ.set i (some a.loc)) Hb H0 H1 v2 a2 := by
  cases a2 with
  | val d => exact f2
  | own b o =>
    obtain ⟨p, u, e, h0, hb, hc, hu, w⟩ := f2
    refine ⟨p, u, e, h0, hb, fun c => ?_, hu, w⟩
    obtain ⟨j, ⟨b', o', e1⟩, e2⟩ := c
    by_cases z : j = i
    · subst z
      have hl : j < σ.length := by have := (List.getElem?_eq_some_iff.mp e2).1; simpa using this
      have hr : j < ρ.length := by have := (List.getElem?_eq_some_iff.mp e1).1; simpa using this
      rw [List.getElem?_set_self hl] at e2
      rw [List.getElem?_set_self hr] at e1
      have ev : v = .ref p := by simpa using e2
      cases a with
      | val d => cases e1
      | own b2 o2 => exact ne p ev e ⟨_, _, rfl⟩ ⟨_, _, rfl⟩
    · rw [get_set_ne z] at e1 e2
      exact hc ⟨j, ⟨b', o', e1⟩, e2⟩
end
section
variable {g : G} {k : Nat} {ρ : Rho} {a b c e : Expr} {pos p p2 : Pos} {i : Nat} {x : Str} {nx : Rho → Prop} {rt : Rho → A → Prop} {bk ct : Rho → Prop}
theorem s_parO {y : Str} {px py pt : Pos} {kt k2 pt2} {jj : Nat} (hc : Ct g.X k) (sx : SlotW g.X x i) (sy : SlotW g.X y jj) (hx : Lcl g.X x) (hy : Lcl g.X y)
    (h : GoE g a ρ fun ρ1 u1 => GoE g b ρ1 fun ρ2 u2 => npar ρ2 i = true ∧ npar (ρ2.set i (some u1.loc)) jj = true ∧ nx ((ρ2.set i (some u1.loc)).set jj (some u2.loc)))
    (hij : i ≠ jj) (hl : (py.line == px.line) = true) (hd : [x, y].eraseDups.length = 2)
    (hsa : isSt a = false) (hsb : isSt b = false) (hf : [a, b].all (foldedForSure 8) = false) (hc1 : [a, b].all (constantsAlone 8) = false) (hs : swapsWithSole [.Tuple [.Name x px, .Name y py] kt pt] (.Tuple [a, b] k2 pt2) pos.line g.X.env = pure false)
    (e1 : starEach (a :: [b]) g.X.env = (false, eval a g.X.env) :: starEach [b] g.X.env := by rfl) (e2 : starEach (b :: []) g.X.env = (false, eval b g.X.env) :: starEach [] g.X.env := by rfl) :
    GoS g (.Assign [.Tuple [.Name x px, .Name y py] kt pt] (.Tuple [a, b] k2 pt2) pos) ρ ⟨nx, rt, bk, ct⟩ :=
  s_of (ps_par hc.calm sx.nd sx.hN sy.hN hij hx hy (pa_cons pX (pa_cons pX pa_nil e2) e1) (par_sw hc.kind hx hy hl hd hsa hsb hf hc1) hs) fun σ H0 H1 S T De w =>
    h σ H0 H1 S T _ fun v H01 H11 ρ1 u1 st1 S1 r1 q1 => q1 σ H01 H11 S1 (T.step st1) _ fun v2 H02 H12 ρ2 u2 st2 S2 r2 ⟨n1, n2, q⟩ => by
      have f1 := (Fl.of r1).step st2
      have f2 := Fl.of (res_back r2 fun p e => st1.dom p e)
      have st := st1.trans st2
      obtain ⟨Sa, sa⟩ := fl_set S2 st f1 n1
      have f3 := fl_past (i := i) (a := u1) (fun pp z1 z2 z3 z4 => by
        obtain ⟨b2, o2, z3⟩ := z3
        obtain ⟨b1, o1, z4⟩ := z4
        subst z3; subst z4
        obtain ⟨q1, e1, _, hb1, _, _⟩ := r2
        rw [z2] at e1; cases e1
        obtain ⟨q2, e2, _, _, _, w2⟩ := r1
        rw [z1] at e2; cases e2
        obtain ⟨y, hy, _⟩ := w2.there
        rw [hb1] at hy; cases hy) f2 f1
      obtain ⟨Sb, sb⟩ := fl_set Sa sa f3 n2
      exact ⟨v, v2, rfl, w.nx _ H02 H12 _ sb Sb q⟩
end
end FW

set_option Elab.async false
set_option linter.all false
set_option maxRecDepth 100000
set_option maxHeartbeats 4000000
/-! dicts walked: locked while an expression or a statement runs -/
namespace FW
open PySem PySem.Spec PyProof.Rows L2
mutual
/-- nothing locked within -/
def nf : D → Bool
  | .tup ds => nfs ds
  | .lst ds => nfs ds
  | .rdl ds => nfs ds
  | .dic _ ds => nfs ds
  | .fdc _ _ => false
  | _ => true
def nfs : List D → Bool
  | [] => true
  | d :: ds => nf d && nfs ds
end
theorem nfs_all {ds : List D} : nfs ds = true ↔ ∀ d ∈ ds, nf d = true := by
  induction ds with
  | nil => simp [nfs]
  | cons d ds ih => simp [nfs, ih]
def nfO : O → Bool
  | .lst ds => nfs ds
  | .dic _ ds => nfs ds
def nfA : Option A → Bool
  | some (.val d) => nf d
  | some (.own _ o) => nfO o
  | none => true
section
variable {K : PySem.W.Frag} {H : Hp} {l : Addr} {ob : Obj} {ws0 : List (Key × V)}
theorem Rd.lock {a : Addr} {u : HO} (h : H l = some (.dK ws0)) (r : Rd H a u) : Rd (upd H l (.frz ob (.dK ws0))) a u := by
  by_cases z : a = l
  · subst z
    rcases r with r | ⟨o, r⟩
    · rw [h] at r; cases r; exact .inr ⟨ob, upd_same⟩
    · rw [h] at r; cases r
  · rcases r with r | ⟨o, r⟩
    · exact .inl (by rw [upd_ne z]; exact r)
    · exact .inr ⟨o, by rw [upd_ne z]; exact r⟩
theorem Rd.unlock {a : Addr} {u : HO} (h : H l = some (.frz ob (.dK ws0))) (hu : ∀ o v, u ≠ .frz o v) (r : Rd H a u) : Rd (upd H l (.dK ws0)) a u := by
  by_cases z : a = l
  · subst z
    rcases r with r | ⟨o, r⟩
    · rw [h] at r; cases r; exact absurd rfl (hu ob (.dK ws0))
    · rw [h] at r; cases r; exact .inl upd_same
  · rcases r with r | ⟨o, r⟩
    · exact .inl (by rw [upd_ne z]; exact r)
    · exact .inr ⟨o, by rw [upd_ne z]; exact r⟩
mutual
theorem Rep.lock (h : H l = some (.dK ws0)) : ∀ {d : D} {v : V}, Rep K H v d → Rep K (upd H l (.frz ob (.dK ws0))) v d
  | .non, _, r => r
  | .bl _, _, r => r
  | .int _, _, r => r
  | .str _, _, r => r
  | .ref _, _, r => r
  | .ty _, _, r => r
  | .tup _, _, ⟨a, vs, h1, h2, h3⟩ => ⟨a, vs, h1, h2.imp (Rd.lock h) id, Reps.lock h h3⟩
  | .lst _, _, ⟨a, vs, h1, h2, h3⟩ => ⟨a, vs, h1, by rw [upd_ne (ne_of h2 h (fun z => by cases z))]; exact h2, Reps.lock h h3⟩
  | .rdl _, _, ⟨a, vs, h1, h2, h3⟩ => ⟨a, vs, h1, h2.imp (Rd.lock h) id, Reps.lock h h3⟩
  | .dic _ _, _, ⟨a, ws, h1, h2, h3, h4⟩ => ⟨a, ws, h1, Rd.lock h h2, h3, Reps.lock h h4⟩
  | .fdc _ _, _, ⟨a, o, ws, h1, h2, h3, h4⟩ => ⟨a, o, ws, h1, by rw [upd_ne (ne_of h2 h (fun z => by cases z))]; exact h2, h3, Reps.lock h h4⟩
  | .exc _, _, ⟨a, oe, h1, h2, h3, h4⟩ => ⟨a, oe, h1, by rw [upd_ne (ne_of h2 h (fun z => by cases z))]; exact h2, h3, h4⟩
theorem Reps.lock (h : H l = some (.dK ws0)) : ∀ {ds : List D} {vs : List V}, Reps K H vs ds → Reps K (upd H l (.frz ob (.dK ws0))) vs ds
  | [], _, r => r
  | _ :: _, _, ⟨v, r, h1, h2, h3⟩ => ⟨v, r, h1, Rep.lock h h2, Reps.lock h h3⟩
end
mutual
theorem Rep.unlock (h : H l = some (.frz ob (.dK ws0))) : ∀ {d : D} {v : V}, nf d = true → Rep K H v d → Rep K (upd H l (.dK ws0)) v d
  | .non, _, _, r => r
  | .bl _, _, _, r => r
  | .int _, _, _, r => r
  | .str _, _, _, r => r
  | .ref _, _, _, r => r
  | .ty _, _, _, r => r
  | .tup _, _, n, ⟨a, vs, h1, h2, h3⟩ => ⟨a, vs, h1, h2.imp (Rd.unlock h fun _ _ z => by cases z) id, Reps.unlock h (by simpa [nf] using n) h3⟩
  | .lst _, _, n, ⟨a, vs, h1, h2, h3⟩ => ⟨a, vs, h1, by rw [upd_ne (ne_of h2 h (fun z => by cases z))]; exact h2, Reps.unlock h (by simpa [nf] using n) h3⟩
  | .rdl _, _, n, ⟨a, vs, h1, h2, h3⟩ => ⟨a, vs, h1, h2.imp (Rd.unlock h fun _ _ z => by cases z) id, Reps.unlock h (by simpa [nf] using n) h3⟩
  | .dic _ _, _, n, ⟨a, ws, h1, h2, h3, h4⟩ => ⟨a, ws, h1, Rd.unlock h (fun _ _ z => by cases z) h2, h3, Reps.unlock h (by simpa [nf] using n) h4⟩
  | .fdc _ _, _, n, _ => by cases n
  | .exc _, _, _, ⟨a, oe, h1, h2, h3, h4⟩ => ⟨a, oe, h1, by rw [upd_ne (ne_of h2 h (fun z => by cases z))]; exact h2, h3, h4⟩
theorem Reps.unlock (h : H l = some (.frz ob (.dK ws0))) : ∀ {ds : List D} {vs : List V}, nfs ds = true → Reps K H vs ds → Reps K (upd H l (.dK ws0)) vs ds
  | [], _, _, r => r
  | d :: ds, _, n, ⟨v, r, h1, h2, h3⟩ => by
    have n' : nf d = true ∧ nfs ds = true := by simpa [nfs] using n
    exact ⟨v, r, h1, Rep.unlock h n'.1 h2, Reps.unlock h n'.2 h3⟩
end
end
/-- slot i is locked -/
def lockR (ρ : Rho) (i : Nat) (ks : List Str) (xs : List D) : Rho := ρ.set i (some (.val (.fdc ks xs)))
/-- .. and unlocked -/
def unlockR (ρ : Rho) (i : Nat) (ks : List Str) (xs : List D) : Rho := ρ.set i (some (.val (.dic ks xs)))
/-- slot i is locked, nothing else is -/
structure Lk (ρ : Rho) (i : Nat) (ks : List Str) (xs : List D) : Prop where
  at' : ρ[i]? = some (some (.val (.fdc ks xs)))
  nfx : nfs xs = true
  oth : ∀ (j : Nat) (y : Option A), ρ[j]? = some y → j ≠ i → nfA y = true
section
variable {K : PySem.W.Frag} {σ σ' : L2.St} {ρ ρ' : Rho} {H0 H1 H0' H1' Hb : Hp} {i : Nat} {ks : List Str} {xs : List D} {l : Addr} {ob : Obj} {ws : List (Key × V)}
theorem own_lock {p : Addr} {o : O} (w : OwnAt K H0 H1 p o) (h0 : H0 p = none) (hl : H0 l = some (.dK ws)) : OwnAt K (upd H0 l (.frz ob (.dK ws))) (upd H1 l (.frz ob (.dK ws))) p o := by
  have ne : p ≠ l := fun z => by rw [z, hl] at h0; cases h0
  cases o with
  | lst ds => obtain ⟨vs, k1, k2⟩ := w; exact ⟨vs, by rw [upd_ne ne]; exact k1, Reps.lock hl k2⟩
  | dic ks ds => obtain ⟨vs, k1, k2, k3⟩ := w; exact ⟨vs, by rw [upd_ne ne]; exact k1, k2, Reps.lock hl k3⟩
theorem own_unlock {p : Addr} {o : O} (n : nfO o = true) (w : OwnAt K H0 H1 p o) (h0 : H0 p = none) (hl : H0 l = some (.frz ob (.dK ws))) : OwnAt K (upd H0 l (.dK ws)) (upd H1 l (.dK ws)) p o := by
  have ne : p ≠ l := fun z => by rw [z, hl] at h0; cases h0
  cases o with
  | lst ds => obtain ⟨vs, k1, k2⟩ := w; exact ⟨vs, by rw [upd_ne ne]; exact k1, Reps.unlock hl n k2⟩
  | dic ks ds => obtain ⟨vs, k1, k2, k3⟩ := w; exact ⟨vs, by rw [upd_ne ne]; exact k1, k2, Reps.unlock hl n k3⟩
theorem upd_sub {u : HO} (s : Same H0 H1) : Same (upd H0 l u) (upd H1 l u) := fun a o q => by
  by_cases z : a = l
  · subst z; rw [upd_same] at q ⊢; exact q
  · rw [upd_ne z] at q ⊢; exact s a o q
theorem ownS_iff {p : Addr} {j : Nat} {y : D} {ρ : Rho} (hn : ∀ b o, ρ[i]? ≠ some (some (.own b o))) : OwnS σ (ρ.set i (some (.val y))) j p ↔ OwnS σ ρ j p := by
  constructor
  · rintro ⟨⟨b, o, e1⟩, e2⟩
    by_cases z : j = i
    · subst z
      by_cases hl : j < ρ.length
      · rw [List.getElem?_set_self hl] at e1; cases e1
      · rw [List.getElem?_eq_none (by simpa using Nat.le_of_not_lt hl)] at e1; cases e1
    · rw [get_set_ne z] at e1; exact ⟨⟨b, o, e1⟩, e2⟩
  · rintro ⟨⟨b, o, e1⟩, e2⟩
    have z : j ≠ i := fun z => by subst z; exact hn b o e1
    exact ⟨⟨b, o, by rw [get_set_ne z]; exact e1⟩, e2⟩
theorem cell_iff {p : Addr} {y : D} {ρ : Rho} (hn : ∀ b o, ρ[i]? ≠ some (some (.own b o))) : Cell σ (ρ.set i (some (.val y))) p ↔ Cell σ ρ p :=
  ⟨fun ⟨j, h⟩ => ⟨j, (ownS_iff hn).mp h⟩, fun ⟨j, h⟩ => ⟨j, (ownS_iff hn).mpr h⟩⟩
theorem sat_lock (S : Sat K H0 H1 σ ρ) (e : ρ[i]? = some (some (.val (.dic ks xs)))) (hs : σ[i]? = some (some (.ref l))) (hl : H0 l = some (.dK ws)) (hk : ws.map (·.1) = ks.map Sum.inr) (r : Reps K H0 (ws.map (·.2)) xs) :
    Sat K (upd H0 l (.frz ob (.dK ws))) (upd H1 l (.frz ob (.dK ws))) σ (lockR ρ i ks xs) := by
  have hn : ∀ b o, ρ[i]? ≠ some (some (A.own b o)) := fun b o z => by rw [e] at z; cases z
  have hlen : i < ρ.length := (List.getElem?_eq_some_iff.mp e).1
  refine ⟨upd_sub S.sub, fun j d q => ?_, fun j b o q => ?_, fun j k p h1 h2 => S.dist j k p ((ownS_iff hn).mp h1) ((ownS_iff hn).mp h2), by simp [lockR, S.len]⟩
  · unfold lockR at q
    by_cases z : j = i
    · subst z
      rw [List.getElem?_set_self hlen] at q; cases q
      exact ⟨.ref l, hs, l, ob, ws, rfl, upd_same, hk, Reps.lock hl r⟩
    · rw [get_set_ne z] at q
      obtain ⟨v, h1, h2⟩ := S.val j d q
      exact ⟨v, h1, Rep.lock hl h2⟩
  · have q' : ρ[j]? = some (some (.own b o)) := by
      unfold lockR at q
      by_cases z : j = i
      · subst z; rw [List.getElem?_set_self hlen] at q; cases q
      · rw [get_set_ne z] at q; exact q
    obtain ⟨p, h1, h2, h3⟩ := S.own j b o q'
    have ne : p ≠ l := fun z => by rw [z, hl] at h2; cases h2
    exact ⟨p, h1, by rw [upd_ne ne]; exact h2, own_lock h3 h2 hl⟩
theorem sat_unlock (S : Sat K H0 H1 σ ρ) (L : Lk ρ i ks xs) (hl : H0 l = some (.frz ob (.dK ws))) (hs : σ[i]? = some (some (.ref l))) : Sat K (upd H0 l (.dK ws)) (upd H1 l (.dK ws)) σ (unlockR ρ i ks xs) := by
  have hn : ∀ b o, ρ[i]? ≠ some (some (A.own b o)) := fun b o z => by rw [L.at'] at z; cases z
  have hlen : i < ρ.length := (List.getElem?_eq_some_iff.mp L.at').1
  refine ⟨upd_sub S.sub, fun j d q => ?_, fun j b o q => ?_, fun j k p h1 h2 => S.dist j k p ((ownS_iff hn).mp h1) ((ownS_iff hn).mp h2), by simp [unlockR, S.len]⟩
  · unfold unlockR at q
    by_cases z : j = i
    · subst z
      rw [List.getElem?_set_self hlen] at q; cases q
      obtain ⟨v, h1, a, o, ws', e1, e2, e3, e4⟩ := S.val j _ L.at'
      rw [hs] at h1; cases h1; cases e1
      rw [hl] at e2; cases e2
      exact ⟨.ref l, hs, l, ws, rfl, .inl upd_same, e3, Reps.unlock hl L.nfx e4⟩
    · rw [get_set_ne z] at q
      obtain ⟨v, h1, h2⟩ := S.val j d q
      exact ⟨v, h1, Rep.unlock hl (L.oth j _ q z) h2⟩
  · have q' : ρ[j]? = some (some (.own b o)) ∧ j ≠ i := by
      unfold unlockR at q
      by_cases z : j = i
      · subst z; rw [List.getElem?_set_self hlen] at q; cases q
      · rw [get_set_ne z] at q; exact ⟨q, z⟩
    obtain ⟨p, h1, h2, h3⟩ := S.own j b o q'.1
    have ne : p ≠ l := fun z => by rw [z, hl] at h2; cases h2
    exact ⟨p, h1, by rw [upd_ne ne]; exact h2, own_unlock (L.oth j _ q'.1 q'.2) h3 h2 hl⟩
/-- a step within the lock, seen from outside -/
theorem step_unlock {ρ2 : Rho} (e : ρ[i]? = some (some (.val (.dic ks xs)))) (h0 : H0 l = some (.dK ws)) (h1 : H1 l = some (.dK ws)) (st : Step σ (lockR ρ i ks xs) (upd H0 l (.frz ob (.dK ws))) (upd H1 l (.frz ob (.dK ws))) σ' ρ2 H0' H1') (hn2 : ∀ b o, ρ2[i]? ≠ some (some (.own b o))) :
    Step σ ρ H0 H1 σ' (unlockR ρ2 i ks xs) (upd H0' l (.dK ws)) (upd H1' l (.dK ws)) := by
  have hn : ∀ b o, ρ[i]? ≠ some (some (A.own b o)) := fun b o z => by rw [e] at z; cases z
  have c1 : ∀ a, Cell σ (lockR ρ i ks xs) a ↔ Cell σ ρ a := fun a => cell_iff hn
  have c2 : ∀ a, Cell σ' (unlockR ρ2 i ks xs) a ↔ Cell σ' ρ2 a := fun a => cell_iff hn2
  refine ⟨fun a o q => ?_, fun a o q => ?_, fun a o q hc => ?_, fun a q => ?_, fun a q => ?_, fun j p ⟨⟨o, q1⟩, q2⟩ => ?_⟩
  · by_cases z : a = l
    · subst z; rw [h0] at q; cases q; exact upd_same
    · rw [upd_ne z]; exact st.kn a o (by rw [upd_ne z]; exact q)
  · by_cases z : a = l
    · subst z; rw [upd_same] at q; cases q; exact .inl h0
    · rw [upd_ne z] at q
      rcases st.new a o q with w | w | w
      · rw [upd_ne z] at w; exact .inl w
      · rw [upd_ne z] at w; exact .inr (.inl w)
      · exact .inr (.inr ((c1 a).mp w))
  · by_cases z : a = l
    · subst z; rw [h1] at q; cases q; exact upd_same
    · rw [upd_ne z]; exact st.fr a o (by rw [upd_ne z]; exact q) fun c => hc ((c1 a).mp c)
  · by_cases z : a = l
    · subst z; rw [upd_same] at q; cases q
    · rw [upd_ne z] at q
      have := st.dom a q
      rw [upd_ne z] at this; exact this
  · rcases st.cell a ((c2 a).mp q) with w | w
    · exact .inl ((c1 a).mp w)
    · by_cases z : a = l
      · subst z; rw [upd_same] at w; cases w
      · rw [upd_ne z] at w; exact .inr w
  · have z : j ≠ i := fun z => by subst z; exact hn _ _ q1
    obtain ⟨⟨o', w1⟩, w2⟩ := st.par j p ⟨⟨o, by unfold lockR; rw [get_set_ne z]; exact q1⟩, q2⟩
    exact ⟨⟨o', by unfold unlockR; rw [get_set_ne z]; exact w1⟩, w2⟩
end
section
variable {g : G} {k : Nat} {ρ : Rho} {a b c e : Expr} {es : List Expr} {st : Stmt} {pos p p2 apos : Pos} {j i : Nat} {x : Str} {ks : List Str} {xs : List D}
/-- an expression that makes a list, while the dict in slot i is locked -/
theorem e_lock {Q : Rho → A → Prop} (hρ : ρ[i]? = some (some (.val (.dic ks xs)))) (h : GoE g.q e (lockR ρ i ks xs) fun ρ1 a => Lk ρ1 i ks xs ∧ ∃ ds, a = .own false (.lst ds) ∧ nfs ds = true ∧ Q (unlockR ρ1 i ks xs) a) : GoE g e ρ Q := fun σ H0 H1 S T Qv kk => by
  obtain ⟨v, h1, l, ws, rfl, hr, hk, rr⟩ := S.val i _ hρ
  have T' : ∀ {σ' : L2.St} {ρ' : Rho} {Ha Hb : Hp}, Tk g.q σ' ρ' Ha Hb := T.q
  rcases hr with hl | ⟨o, hl⟩
  · have hl1 := S.sub _ _ hl
    intro pins s I
    refine (pe_lock pX).run pins s σ H1 Qv I ⟨l, _, hl1, True.intro, fun od => ?_⟩
    refine h σ _ _ (sat_lock (ob := od) S hρ h1 hl hk rr) T' _ fun v H0' H1' ρ' a st' S' r ⟨L, ds, e1, n1, q⟩ => ?_
    have hl' : H0' l = some (.frz od (.dK ws)) := st'.kn _ _ upd_same
    refine ⟨S'.sub _ _ hl', ?_⟩
    have hn2 : ∀ b o, ρ'[i]? ≠ some (some (A.own b o)) := fun b o z => by rw [L.at'] at z; cases z
    refine kk v _ _ (unlockR ρ' i ks xs) a (step_unlock hρ hl hl1 st' hn2) (sat_unlock S' L hl' h1) ?_ q
    subst e1
    obtain ⟨p, e2, h0, hb, hc, w⟩ := r
    have ne : p ≠ l := fun z => by rw [z, hl'] at h0; cases h0
    rw [upd_ne ne] at hb
    exact ⟨p, e2, by rw [upd_ne ne]; exact h0, hb, fun c => hc ((cell_iff hn2).mp c), own_unlock n1 w h0 hl'⟩
  · -- locked already
    have S2 : Sat g.X.K H0 H1 σ (lockR ρ i ks xs) := by
      have hn : ∀ b o, ρ[i]? ≠ some (some (A.own b o)) := fun b o z => by rw [hρ] at z; cases z
      have hlen : i < ρ.length := (List.getElem?_eq_some_iff.mp hρ).1
      refine ⟨S.sub, fun j d q => ?_, fun j b o q => ?_, fun j k p h1 h2 => S.dist j k p ((ownS_iff hn).mp h1) ((ownS_iff hn).mp h2), by simp [lockR, S.len]⟩
      · unfold lockR at q
        by_cases z : j = i
        · subst z; rw [List.getElem?_set_self hlen] at q; cases q; exact ⟨_, h1, l, o, ws, rfl, hl, hk, rr⟩
        · rw [get_set_ne z] at q; exact S.val j d q
      · unfold lockR at q
        by_cases z : j = i
        · subst z; rw [List.getElem?_set_self hlen] at q; cases q
        · rw [get_set_ne z] at q; exact S.own j b o q
    refine h σ H0 H1 S2 T' _ fun v H0' H1' ρ' a st' S' r ⟨L, ds, e1, n1, q⟩ => ?_
    have hn : ∀ b o, ρ[i]? ≠ some (some (A.own b o)) := fun b o z => by rw [hρ] at z; cases z
    have hn2 : ∀ b o, ρ'[i]? ≠ some (some (A.own b o)) := fun b o z => by rw [L.at'] at z; cases z
    have hlen : i < ρ'.length := (List.getElem?_eq_some_iff.mp L.at').1
    refine kk v H0' H1' (unlockR ρ' i ks xs) a ⟨st'.kn, fun a o q => ?_, fun a o q hc => st'.fr a o q fun c => hc ((cell_iff hn).mp c), st'.dom, fun a q => ?_, fun j p ⟨⟨o, q1⟩, q2⟩ => ?_⟩ ⟨S'.sub, fun j d q => ?_, fun j b o q => ?_, fun j k p h1 h2 => S'.dist j k p ((ownS_iff hn2).mp h1) ((ownS_iff hn2).mp h2), by simp [unlockR, S'.len]⟩ ?_ q
    · rcases st'.new a o q with w | w | w
      · exact .inl w
      · exact .inr (.inl w)
      · exact .inr (.inr ((cell_iff hn).mp w))
    · rcases st'.cell a ((cell_iff hn2).mp q) with w | w
      · exact .inl ((cell_iff hn).mp w)
      · exact .inr w
    · have z : j ≠ i := fun z => by subst z; exact hn _ _ q1
      obtain ⟨⟨o', w1⟩, w2⟩ := st'.par j p ⟨⟨o, by unfold lockR; rw [get_set_ne z]; exact q1⟩, q2⟩
      exact ⟨⟨o', by unfold unlockR; rw [get_set_ne z]; exact w1⟩, w2⟩
    · unfold unlockR at q
      by_cases z : j = i
      · subst z
        rw [List.getElem?_set_self hlen] at q; cases q
        obtain ⟨v, k1, a, o, ws', k2, k3, k4, k5⟩ := S'.val j _ L.at'
        exact ⟨v, k1, a, ws', k2, .inr ⟨o, k3⟩, k4, k5⟩
      · rw [get_set_ne z] at q; exact S'.val j d q
    · unfold unlockR at q
      by_cases z : j = i
      · subst z; rw [List.getElem?_set_self hlen] at q; cases q
      · rw [get_set_ne z] at q; exact S'.own j b o q
    · subst e1
      obtain ⟨p, e2, h0, hb, hc, w⟩ := r
      exact ⟨p, e2, h0, hb, fun c => hc ((cell_iff hn2).mp c), w⟩
/-- what a locked dict is walked as: its keys -/
theorem i_keys {tg : Expr} {Q : Rho → List D → Prop} (h : GoV g e ρ fun ρ1 d => ∃ ks xs, d = .fdc ks xs ∧ Q ρ1 (ks.map .str)) : GoI g tg e ρ Q := ⟨_, pi_keys pX, fun σ H0 H1 S T R kk => h σ H0 H1 S T _ fun v H0' H1' ρ' d st S' r ⟨ks, xs, e1, q⟩ => by
  subst e1
  obtain ⟨a, o, ws, rfl, hl, hk, rr⟩ := r
  have hlen : ws.length = ks.length := by rw [← List.length_map (f := (·.1)), hk, List.length_map]
  have hat : ∀ i, i < ws.length → ∃ (s : Str) (v : V), ks[i]? = some s ∧ ws[i]? = some (Sum.inr s, v) := fun i hi => by
    have e2 : (ws.map (·.1))[i]? = some (ws[i]).1 := by simp [hi]
    rw [hk, List.getElem?_map] at e2
    have hi' : i < ks.length := by omega
    rw [List.getElem?_eq_getElem hi'] at e2
    have e3 : Sum.inr ks[i] = (ws[i]).1 := by simpa using e2
    exact ⟨ks[i], (ws[i]).2, List.getElem?_eq_getElem hi', by rw [List.getElem?_eq_getElem hi, e3]⟩
  refine ⟨a, o, rfl, .inl ⟨ws, S'.sub _ _ hl, kk _ H0' H1' ρ' (ks.map .str) st S' ⟨fun i H s hi => ⟨s _ _ hl, by rw [hlen]; simpa using hi⟩, fun i H x H' s ⟨e2, k, v, e3, e4⟩ => ⟨e2, fun d hd K0 _ => ?_⟩, fun i H s hi => ⟨s _ _ hl, by rw [hlen]; simpa using hi⟩⟩ q⟩⟩
  have hi : i < ws.length := (List.getElem?_eq_some_iff.mp e3).1
  obtain ⟨s1, v1, f1, f2⟩ := hat i hi
  rw [f2] at e3; cases e3
  rw [List.getElem?_map, f1] at hd
  cases hd
  subst e4
  exact rep_str⟩
end
end FW

set_option Elab.async false
set_option linter.all false
set_option maxRecDepth 100000
set_option maxHeartbeats 4000000
/-! names in order; how a hanging runs, laws of it -/
namespace FW
open PySem L2
open PySem.W (AllAlike Sortable dataLe alike)
/-- a loop over things x that stand as data φ x, by what holds of the things still to come -/
theorem loop_each {α : Type} {g : G} {t : TG} {body : List Stmt} {nx : Rho → Prop} {rt : Rho → A → Prop} (φ : α → D) (I : List α → Rho → Prop) (hb : ∀ x xs ρ, I (x :: xs) ρ → WG g t (φ x) ρ fun ρ1 => GoB g body ρ1 ⟨I xs, rt, nx, I xs⟩) (hn : ∀ ρ, I [] ρ → nx ρ) : ∀ (xs : List α) (ρ : Rho), I xs ρ → Loop g t body (xs.map φ) ρ nx rt
  | [], ρ, h => hn ρ h
  | x :: xs, ρ, h => fun σ H0 H1 S v r Qv k => hb x xs ρ h σ H0 H1 S v r Qv fun σ' H0' H1' ρ' st S' q => k σ' H0' H1' ρ' st S'
      (WS.imp q (fun r hr => loop_each φ I hb hn xs r hr) (fun _ _ q => q) (fun _ q => q) fun r hr => loop_each φ I hb hn xs r hr)
theorem npar_of {ρ : Rho} {i : Nat} (h : ∀ y, ρ[i]? = some y → npB y = true) : npar ρ i = true := by
  unfold npar
  split
  · rename_i o e
    cases h _ e
  · rfl
theorem dataLe_refl {β : Type} (k : β → PyData) (b : β) : dataLe false k b b = true := by
  rcases (PySem.W.sortLe_total (PyProof.Rows.listOrd PyProof.Rows.itemOrd) false fun b => PySem.W.keyToks (k b)).total b b with h | h <;> exact h
/-- texts, rising -/
def sstr (l : List Str) : List Str := l.mergeSort (dataLe false PyData.str)
theorem nodup_map_inj {α β : Type} {f : α → β} : ∀ {l : List α}, (l.map f).Nodup → ∀ a ∈ l, ∀ b ∈ l, f a = f b → a = b
  | [], _, a, ha, _, _, _ => by cases ha
  | c :: l, nd, a, ha, b, hb, e => by
    rw [List.map_cons, List.nodup_cons] at nd
    rcases List.mem_cons.mp ha with z1 | ha'
    · rcases List.mem_cons.mp hb with z2 | hb'
      · rw [z1, z2]
      · exact absurd (by rw [← z1, e]; exact List.mem_map_of_mem hb') nd.1
    · rcases List.mem_cons.mp hb with z2 | hb'
      · exact absurd (by rw [← z2, ← e]; exact List.mem_map_of_mem ha') nd.1
      · exact nodup_map_inj nd.2 a ha' b hb' e
/-- rows with names ahead, in order: their names are in order -/
theorem nm_sort {α : Type} (nm : α → Str) (φ : α → PyData) (r : α → List PyData) (e : ∀ a, φ a = .tuple (.str (nm a) :: r a)) {l : List α} (nd : (l.map nm).Nodup) : (l.mergeSort (dataLe false φ)).map nm = sstr (l.map nm) := by
  refine PySem.W.sort_maps nm fun a ha b hb => ?_
  by_cases z : nm a = nm b
  · have := nodup_map_inj nd a ha b hb z
    subst this
    rw [dataLe_refl, dataLe_refl]
  · have h1 : dataLe false φ a b = !PySem.W.dataLt (φ b) (φ a) := rfl
    have h2 : dataLe false PyData.str (nm a) (nm b) = !PySem.W.dataLt (.str (nm b)) (.str (nm a)) := rfl
    rw [h1, h2, e, e, PySem.W.dataLt_tuple, PySem.W.dataLt_all_no (by simp [alike]) (by simp [PyData.eqv]; exact fun q => z q.symm)]
theorem srt_strs (l : List Str) : srt (l.map .str) = (sstr l).map .str := (PySem.W.sort_maps (r := dataLe false PyData.str) (s := dataLe false toP) D.str fun a _ b _ => rfl).symm
theorem sstr_perm (l : List Str) : (sstr l).Perm l := List.mergeSort_perm _ _
theorem str_total : PySem.W.TotalLe (dataLe false PyData.str) := PySem.W.sortLe_total _ _ _
theorem str_anti (a b : Str) (h1 : dataLe false PyData.str a b = true) (h2 : dataLe false PyData.str b a = true) : a = b := by
  have e := PySem.W.dataLe_str (fun s : Str => s)
  have e1 : dataLe false (fun b : Str => PyData.str b) a b = decide (a.cps.toList ≤ b.cps.toList) := congrFun (congrFun e a) b
  have e2 : dataLe false (fun b : Str => PyData.str b) b a = decide (b.cps.toList ≤ a.cps.toList) := congrFun (congrFun e b) a
  rw [show dataLe false PyData.str a b = dataLe false (fun b : Str => PyData.str b) a b from rfl, e1] at h1
  rw [show dataLe false PyData.str b a = dataLe false (fun b : Str => PyData.str b) b a from rfl, e2] at h2
  have := List.le_antisymm (of_decide_eq_true h1) (of_decide_eq_true h2)
  cases a; cases b
  congr
  exact Array.ext' this
/-- the order is told by the texts alone -/
theorem sstr_of_perm {l m : List Str} (h : l.Perm m) : sstr l = sstr m := by
  refine List.Perm.eq_of_pairwise (le := fun a b => dataLe false PyData.str a b = true) (fun a b _ _ => str_anti a b) ?_ ?_ (((sstr_perm l).trans h).trans (sstr_perm m).symm)
  · exact PySem.W.sort_pairwise str_total l
  · exact PySem.W.sort_pairwise str_total m
theorem srt_ok_strs {l : List Str} (hl : l.length ≤ 100000) (hn : ∀ s ∈ l, NmOk s) : SrtOk (l.map .str) where
  pl := pds_all.mpr fun d hd => by
    obtain ⟨x, hx, rfl⟩ := List.mem_map.mp hd
    exact (hn x hx).pd
  al := by
    rw [List.map_map]
    exact AllAlike.of fun a b => by simp [toP, alike]
  so := .inr fun d hd => by
    obtain ⟨x, hx, rfl⟩ := List.mem_map.mp hd
    obtain ⟨y, hy, rfl⟩ := List.mem_map.mp hx
    exact ⟨fun z => by simp [toP] at z, fun xs z => by simp [toP] at z⟩
  le := by simpa using hl
  dp := fun d hd => by
    obtain ⟨x, hx, rfl⟩ := List.mem_map.mp hd
    simp [toP, PyData.depth]
namespace Hg
variable {kf : Str → Option Rat}
/-- how fast things move does not hang on the top's hold -/
theorem runs_p {β : Type} (f : Str → Rat → β) : ∀ (h : Hg) (s p p' : Rat), (runsM kf h s p).map (fun x => f x.1 x.2.1) = (runsM kf h s p').map (fun x => f x.1 x.2.1)
  | .wt _ _, _, _, _ => rfl
  | .pu _ _ _ _ _ _, _, _, _ => rfl
theorem share {p q s : Rat} (hp : 0 < p) (hq : 0 < q) : 2 * (p * q) / (p + q) * (1 - s) / p = 2 * ((1 - s) * (q / (p + q))) ∧ 2 * (p * q) / (p + q) * (1 - s) / q = 2 * ((1 - s) * (p / (p + q))) := by
  have h1 : p * p⁻¹ = 1 := Rat.mul_inv_cancel _ (by grind)
  have h2 : q * q⁻¹ = 1 := Rat.mul_inv_cancel _ (by grind)
  simp only [Rat.div_def]
  constructor <;> grind
/-- the ends' speeds -/
def sL (kf : Str → Option Rat) (l r : Hg) (s : Rat) : Rat := 1 - 2 * (F kf l * F kf r) / (F kf l + F kf r) * (1 - s) / F kf l
def sR (kf : Str → Option Rat) (l r : Hg) (s : Rat) : Rat := 1 - 2 * (F kf l * F kf r) / (F kf l + F kf r) * (1 - s) / F kf r
def pB (kf : Str → Option Rat) (l r : Hg) (s : Rat) : Rat := 2 * (F kf l * F kf r) / (F kf l + F kf r) * (1 - s)
theorem runs_pu (n : Str) (own a b : Int) (l r : Hg) (s p : Rat) : runsM kf (.pu n own l a r b) s p = (n, s, p) :: (runsM kf l (sL kf l r s) (pB kf l r s) ++ runsM kf r (sR kf l r s) (pB kf l r s)) := rfl
theorem runs_top : ∀ (h : Hg) (s p : Rat), (h.nm, s, p) ∈ runsM kf h s p
  | .wt _ _, _, _ => List.mem_cons_self ..
  | .pu _ _ _ _ _ _, _, _ => List.mem_cons_self ..
theorem laws_pu {own : Int} {p q s : Rat} (hp : 0 < p) (hq : 0 < q) :
    let P := 2 * (p * q) / (p + q) * (1 - s)
    (1 - P / p) + (1 - P / q) = 2 * s ∧ P = p * (1 - (1 - P / p)) ∧ P = q * (1 - (1 - P / q)) ∧ ((own : Rat) + 4 * (p * q) / (p + q)) * (1 - s) = own * (1 - s) + 2 * P := by
  have h1 : p * p⁻¹ = 1 := Rat.mul_inv_cancel _ (by grind)
  have h2 : q * q⁻¹ = 1 := Rat.mul_inv_cancel _ (by grind)
  have h3 : (p + q) * (p + q)⁻¹ = 1 := Rat.mul_inv_cancel _ (by grind)
  simp only [Rat.div_def]
  refine ⟨?_, ?_, ?_, ?_⟩ <;> grind
/-- both ends are felt alike, at each pulley -/
def even (kf : Str → Option Rat) : Hg → Prop
  | .wt _ _ => True
  | .pu _ _ l _ r _ => F kf l = F kf r ∧ even kf l ∧ even kf r
theorem sL_zero {p q : Rat} (hp : 0 < p) (hq : 0 < q) : 1 - 2 * (p * q) / (p + q) * (1 - 0) / p = 0 ↔ p = q := by
  have h1 : p * p⁻¹ = 1 := Rat.mul_inv_cancel _ (by grind)
  have h3 : (p + q) * (p + q)⁻¹ = 1 := Rat.mul_inv_cancel _ (by grind)
  have h4 : 1 - 2 * (p * q) / (p + q) * (1 - 0) / p = (p - q) * (p + q)⁻¹ := by simp only [Rat.div_def]; grind
  rw [h4]
  have h5 : 0 < (p + q)⁻¹ := Rat.inv_pos.mpr (by grind)
  constructor
  · intro h
    rcases Rat.mul_eq_zero.mp h with z | z <;> grind
  · intro h
    rw [h]; grind
theorem sR_zero {p q : Rat} (hp : 0 < p) (hq : 0 < q) : 1 - 2 * (p * q) / (p + q) * (1 - 0) / q = 0 ↔ p = q := by
  have e : 2 * (p * q) / (p + q) * (1 - 0) / q = 2 * (q * p) / (q + p) * (1 - 0) / q := by rw [Rat.mul_comm p q, Rat.add_comm p q]
  rw [e, sL_zero hq hp, eq_comm]
theorem still_even (hk : KOk kf) : ∀ {h : Hg}, h.Ok → ∀ p : Rat, (∀ x ∈ runsM kf h 0 p, x.2.1 = 0) ↔ even kf h
  | .wt n v, ok, p => ⟨fun _ => trivial, fun _ x hx => by rw [show x = (n, 0, p) from List.mem_singleton.mp hx]⟩
  | .pu n own l a r b, ok, p => by
    obtain ⟨_, _, _, o2, _, _, o3, _⟩ := ok
    have p1 := F_pos hk o2
    have p2 := F_pos hk o3
    rw [runs_pu]
    have zl : sL kf l r 0 = 0 ↔ F kf l = F kf r := sL_zero p1 p2
    have zr : sR kf l r 0 = 0 ↔ F kf l = F kf r := sR_zero p1 p2
    constructor
    · intro h
      have e : F kf l = F kf r := zl.mp (h _ (List.mem_cons_of_mem _ (List.mem_append.mpr (.inl (runs_top l _ (pB kf l r 0))))))
      have el := zl.mpr e
      have er := zr.mpr e
      rw [el, er] at h
      exact ⟨e, (still_even hk o2 _).mp fun x hx => h x (List.mem_cons_of_mem _ (List.mem_append.mpr (.inl hx))), (still_even hk o3 _).mp fun x hx => h x (List.mem_cons_of_mem _ (List.mem_append.mpr (.inr hx)))⟩
    · rintro ⟨e, h1, h2⟩ x hx
      rw [zl.mpr e, zr.mpr e] at hx
      rcases List.mem_cons.mp hx with z | hx
      · rw [z]
      · rcases List.mem_append.mp hx with z | z
        · exact (still_even hk o2 _).mpr h1 x z
        · exact (still_even hk o3 _).mpr h2 x z
instance decEven : ∀ h : Hg, Decidable (even kf h)
  | .wt _ _ => .isTrue trivial
  | .pu _ _ l _ r _ => by
    have := decEven l
    have := decEven r
    unfold even
    exact inferInstance
/-- at each pulley among the things -/
def evenT (kf : Str → Option Rat) : Hg → Bool
  | .wt _ _ => true
  | .pu _ _ l _ r _ => decide (F kf l = F kf r)
theorem even_all : ∀ h : Hg, h.things.all (evenT kf) = true ↔ even kf h
  | .wt _ _ => by simp [things, evenT, even]
  | .pu n own l a r b => by
    have h1 := even_all l
    have h2 := even_all r
    rw [things, List.all_cons, List.all_append, Bool.and_eq_true, Bool.and_eq_true, h1, h2]
    simp [evenT, even]
end Hg
end FW

set_option Elab.async false
set_option linter.all false
set_option maxRecDepth 100000
set_option maxHeartbeats 4000000
/-! slots that are kept, the others forgotten; loops that keep some slots -/
namespace FW
open PySem PySem.Spec PyProof.Rows L2
/-- only the slots ks are kept -/
def mask (ks : List Nat) : Nat → Rho → Rho
  | _, [] => []
  | i, x :: r => (if ks.contains i then x else none) :: mask ks (i + 1) r
def maskOk (ks : List Nat) : Nat → Rho → Bool
  | _, [] => true
  | i, x :: r => (ks.contains i || npB x) && maskOk ks (i + 1) r
theorem wk_nil : Wk [] [] := ⟨rfl, fun i x e => by simp at e, fun i o e => by simp at e⟩
theorem wk_keep {x : Option A} {ρ ρ' : Rho} (w : Wk ρ ρ') : Wk (x :: ρ) (x :: ρ') := by
  refine ⟨by simp [w.len], fun i y e => ?_, fun i o e => ?_⟩
  · cases i with
    | zero => exact e
    | succ i => exact w.val i y (by simpa using e)
  · cases i with
    | zero => exact e
    | succ i => simpa using w.par i o (by simpa using e)
theorem wk_drop {x : Option A} {ρ ρ' : Rho} (h : npB x = true) (w : Wk ρ ρ') : Wk (x :: ρ) (none :: ρ') := by
  refine ⟨by simp [w.len], fun i y e => ?_, fun i o e => ?_⟩
  · cases i with
    | zero => simp at e
    | succ i => simpa using w.val i y (by simpa using e)
  · cases i with
    | zero =>
      simp at e
      subst e
      cases h
    | succ i => simpa using w.par i o (by simpa using e)
theorem wk_mask {ks : List Nat} : ∀ {ρ : Rho} {i : Nat}, maskOk ks i ρ = true → Wk ρ (mask ks i ρ)
  | [], _, _ => wk_nil
  | x :: r, i, h => by
    have h' : (ks.contains i || npB x) = true ∧ maskOk ks (i + 1) r = true := by simpa [maskOk] using h
    unfold mask
    by_cases z : ks.contains i = true
    · rw [if_pos z]; exact wk_keep (wk_mask h'.2)
    · rw [if_neg z]
      refine wk_drop ?_ (wk_mask h'.2)
      have z' : ks.contains i = false := by simpa using z
      have := h'.1
      rw [z', Bool.false_or] at this
      exact this
theorem ws_mask {g : G} {ts : TS} {ρ ρ0 : Rho} {D : Dn} (ks : List Nat) (e : mask ks 0 ρ = ρ0) (ok : maskOk ks 0 ρ = true) (h : WS g ts ρ0 D) : WS g ts ρ D := ws_weak (wk_mask ok) (e ▸ h)
theorem mask_set {ks : List Nat} {y : Option A} : ∀ {ρ : Rho} {i j : Nat}, mask ((i + j) :: ks) i (ρ.set j y) = (mask ks i ρ).set j y
  | [], _, _ => by simp [mask]
  | x :: r, i, 0 => by
    show (if ((i + 0) :: ks).contains i = true then y else none) :: mask ((i + 0) :: ks) (i + 1) r = y :: mask ks (i + 1) r
    rw [if_pos (by simp)]
    congr 1
    have : ∀ {k : Nat} {r : Rho}, i < k → mask ((i + 0) :: ks) k r = mask ks k r := by
      intro k r
      revert k
      induction r with
      | nil => intro k _; rfl
      | cons x r ih =>
        intro k hk
        unfold mask
        have : ((i + 0) :: ks).contains k = ks.contains k := by simp; omega
        rw [this, ih (k := k + 1) (by omega)]
    exact this (k := i + 1) (by omega)
  | x :: r, i, j + 1 => by
    show mask _ i (x :: r.set j y) = (mask ks i (x :: r)).set (j + 1) y
    unfold mask
    rw [List.set_cons_succ]
    have e : ((i + (j + 1)) :: ks).contains i = ks.contains i := by simp
    rw [e]
    congr 1
    have := mask_set (ks := ks) (y := y) (ρ := r) (i := i + 1) (j := j)
    rw [← this]
    congr 2
    omega
theorem maskOk_set {ks : List Nat} {y : Option A} : ∀ {ρ : Rho} {i j : Nat}, maskOk ks i ρ = true → maskOk ((i + j) :: ks) i (ρ.set j y) = true
  | [], _, _, _ => by simp [maskOk]
  | x :: r, i, 0, h => by
    have h' : (ks.contains i || npB x) = true ∧ maskOk ks (i + 1) r = true := by simpa [maskOk] using h
    show maskOk _ i (y :: r) = true
    unfold maskOk
    rw [Bool.and_eq_true]
    refine ⟨by simp, ?_⟩
    have : ∀ {r : Rho} {k : Nat}, maskOk ks k r = true → maskOk ((i + 0) :: ks) k r = true := by
      intro r
      induction r with
      | nil => intro k _; rfl
      | cons x r ih =>
        intro k hk
        have hk' : (ks.contains k || npB x) = true ∧ maskOk ks (k + 1) r = true := by simpa [maskOk] using hk
        unfold maskOk
        rw [Bool.and_eq_true]
        refine ⟨?_, ih hk'.2⟩
        have := hk'.1
        simp only [List.contains_cons, Bool.or_eq_true] at this ⊢
        rcases this with z | z
        · exact .inl (.inr z)
        · exact .inr z
    exact this h'.2
  | x :: r, i, j + 1, h => by
    have h' : (ks.contains i || npB x) = true ∧ maskOk ks (i + 1) r = true := by simpa [maskOk] using h
    show maskOk _ i (x :: r.set j y) = true
    unfold maskOk
    rw [Bool.and_eq_true]
    refine ⟨?_, ?_⟩
    · have := h'.1
      simp only [List.contains_cons, Bool.or_eq_true] at this ⊢
      rcases this with z | z
      · exact .inl (.inr z)
      · exact .inr z
    · have := maskOk_set (y := y) (j := j) h'.2
      rw [show i + (j + 1) = i + 1 + j by omega]
      exact this
theorem mask_np {ks : List Nat} : ∀ {ρ : Rho} {i j : Nat}, maskOk ks i ρ = true → ks.contains (i + j) = false → ∀ y, ρ[j]? = some y → npB y = true
  | [], _, _, _, _, y, e => by simp at e
  | x :: r, i, 0, h, c, y, e => by
    have h' : (ks.contains i || npB x) = true ∧ maskOk ks (i + 1) r = true := by simpa [maskOk] using h
    have c' : ks.contains i = false := c
    rw [c', Bool.false_or] at h'
    simp at e; subst e
    exact h'.1
  | x :: r, i, j + 1, h, c, y, e => by
    have h' : (ks.contains i || npB x) = true ∧ maskOk ks (i + 1) r = true := by simpa [maskOk] using h
    exact mask_np (i := i + 1) (j := j) h'.2 (by rw [show i + 1 + j = i + (j + 1) by omega]; exact c) y (by simpa using e)
/-- ρ is ρ0 but for what is forgotten -/
def Is (ks : List Nat) (ρ0 ρ : Rho) : Prop := mask ks 0 ρ = ρ0 ∧ maskOk ks 0 ρ = true
theorem ws_is {g : G} {ts : TS} {ρ ρ0 : Rho} {D : Dn} {ks : List Nat} (e : Is ks ρ0 ρ) (h : WS g ts ρ0 D) : WS g ts ρ D := ws_mask ks e.1 e.2 h
/-- a loop whose turns keep the slots ks as they are; P: what holds with the things still to come -/
theorem loop_is {α : Type} {g : G} {body : List Stmt} {nx : Rho → Prop} {rt : Rho → A → Prop} {i : Nat} (φ : α → D) (ks : List Nat) (ρ0 : Rho) (P : List α → Prop) (hi : ks.contains i = false)
    (hb : ∀ x xs, P (x :: xs) → GoB g body (ρ0.set i (some (.val (φ x)))) ⟨fun ρ => Is ks ρ0 ρ ∧ P xs, rt, nx, fun ρ => Is ks ρ0 ρ ∧ P xs⟩) (hn : ∀ ρ, Is ks ρ0 ρ → P [] → nx ρ) (xs : List α) (ρ : Rho) (h : Is ks ρ0 ρ) (hp : P xs) : Loop g (gName i) body (xs.map φ) ρ nx rt := by
  refine loop_each φ (fun xs ρ => Is ks ρ0 ρ ∧ P xs) (fun x xs ρ h => ?_) (fun ρ h => hn ρ h.1 h.2) xs ρ ⟨h, hp⟩
  obtain ⟨⟨e1, e2⟩, hp⟩ := h
  refine wg_name (npar_of fun y e => mask_np (i := 0) (j := i) e2 (by rw [Nat.zero_add]; exact hi) y e) ?_
  refine ws_mask (i :: ks) ?_ ?_ (hb x xs hp)
  · have := mask_set (ks := ks) (y := some (.val (φ x))) (ρ := ρ) (i := 0) (j := i)
    rw [Nat.zero_add] at this
    rw [this, e1]
  · have := maskOk_set (y := some (.val (φ x))) (j := i) e2
    rw [Nat.zero_add] at this
    exact this
/-- .. the target two names -/
theorem loop_is2 {α : Type} {g : G} {body : List Stmt} {nx : Rho → Prop} {rt : Rho → A → Prop} {i j n : Nat} (φ ψ : α → D) (ks : List Nat) (ρ0 : Rho) (P : List α → Prop) (hi : ks.contains i = false) (hj : ks.contains j = false) (hij : i ≠ j) (hn2 : n = 2)
    (hb : ∀ x xs, P (x :: xs) → GoB g body ((ρ0.set i (some (.val (φ x)))).set j (some (.val (ψ x)))) ⟨fun ρ => Is ks ρ0 ρ ∧ P xs, rt, nx, fun ρ => Is ks ρ0 ρ ∧ P xs⟩) (hn : ∀ ρ, Is ks ρ0 ρ → P [] → nx ρ) (xs : List α) (ρ : Rho) (h : Is ks ρ0 ρ) (hp : P xs) :
    Loop g (gTup g.X.K n (gCons (gName i) (gCons (gName j) gNil))) body (xs.map fun x => .tup [φ x, ψ x]) ρ nx rt := by
  subst hn2
  refine loop_each (fun x => .tup [φ x, ψ x]) (fun xs ρ => Is ks ρ0 ρ ∧ P xs) (fun x xs ρ h => ?_) (fun ρ h => hn ρ h.1 h.2) xs ρ ⟨h, hp⟩
  obtain ⟨⟨e1, e2⟩, hp⟩ := h
  have n1 : npar ρ i = true := npar_of fun y e => mask_np (i := 0) (j := i) e2 (by rw [Nat.zero_add]; exact hi) y e
  have o1 := maskOk_set (y := some (.val (φ x))) (j := i) e2
  rw [Nat.zero_add] at o1
  have n2 : npar (ρ.set i (some (.val (φ x)))) j = true := npar_of fun y e => mask_np (i := 0) (j := j) o1 (by rw [Nat.zero_add, List.contains_cons, hj, Bool.or_false]; simpa using Ne.symm hij) y e
  refine wg_tup rfl (wgs_cons (wg_name n1 (wgs_cons (wg_name n2 (wgs_nil ?_)))))
  refine ws_mask (j :: i :: ks) ?_ ?_ (hb x xs hp)
  · have m1 := mask_set (ks := ks) (y := some (.val (φ x))) (ρ := ρ) (i := 0) (j := i)
    have m2 := mask_set (ks := i :: ks) (y := some (.val (ψ x))) (ρ := ρ.set i (some (.val (φ x)))) (i := 0) (j := j)
    rw [Nat.zero_add] at m1 m2
    rw [m2, m1, e1]
  · have := maskOk_set (y := some (.val (ψ x))) (j := j) o1
    rw [Nat.zero_add] at this
    exact this
/-- a tuple's parts into names that are no plain locals: the whole tuple is made -/
theorem cel_sw {env : Env} {x y : Str} {px py pt : Pos} {kt k2 pt2} {a b : Expr} (hx : env.kindOf x = some .cell ∨ env.kindOf y = some .cell) : swappedStores [.Tuple [.Name x px, .Name y py] kt pt] (.Tuple [a, b] k2 pt2) env = pure none := by
  unfold swappedStores
  rcases hx with h | h
  · by_cases hb : env.blockKind = .function
    · simp [hb, h, List.filterMap_cons]
      intros
      split <;> simp_all <;> split <;> simp_all
    · simp [hb]
  · by_cases hb : env.blockKind = .function
    · simp [hb, h, List.filterMap_cons]
      intros
      split <;> simp_all <;> split <;> simp_all
    · simp [hb]
theorem Here.q {P : Program} {w : World} {K : PySem.W.Frag} {mg : Str → Option Value} {base : Heap} {N : List Str} {sc : Scope} {k : Nat} {fl : Bool} {g : G} (h : Here P w K mg base N sc k fl g) : Here P w K mg base N sc k fl g.q :=
  ⟨h.prog, h.w, h.K, h.mg, h.base, h.N, h.scn, h.room, h.calm, h.po, h.nd, h.fn, h.sce, h.kind⟩
/-! == of lists -/
theorem depth_strs : ∀ ns : List Str, PyData.depthAll (toPs (ns.map .str)) = 0 := by
  intro ns
  induction ns with
  | nil => simp [toPs, PyData.depthAll]
  | cons s ns ih => simp [toPs, toP, PyData.depthAll, PyData.depth, ih]
theorem cmp_strs {ns : List Str} (h : ∀ s ∈ ns, NmOk s) : cmpD (.lst (ns.map .str)) := by
  refine ⟨?_, by simp [toP, PyData.depth, depth_strs]⟩
  show pds _ = true
  refine pds_all.mpr fun d hd => ?_
  obtain ⟨s, hs, rfl⟩ := List.mem_map.mp hd
  exact (h s hs).str
theorem eqOk_cl {x y : D} {b : Bool} (hx : cmpD x) (hy : cmpD y) (cx : cl x = true) (cy : cl y = true) (h : b = true ↔ x = y) : eqOk x y b := by
  refine .inr ⟨hx, hy, ?_⟩
  have e := eqv_iff x y cx cy
  unfold eqP
  rw [Bool.eq_iff_iff, h, e]
theorem cl_strs (ns : List Str) : cl (.lst (ns.map .str)) = true := cls_all.mpr fun d hd => by
  obtain ⟨s, _, rfl⟩ := List.mem_map.mp hd
  rfl
theorem str_inj : ∀ {a b : List Str}, a.map D.str = b.map D.str → a = b
  | [], [], _ => rfl
  | [], _ :: _, h => by cases h
  | _ :: _, [], h => by cases h
  | x :: a, y :: b, h => by
    rw [List.map_cons, List.map_cons] at h
    obtain ⟨h1, h2⟩ := List.cons.inj h
    rw [D.str.inj h1, str_inj h2]
theorem eqOk_strs {a b : List Str} (ha : ∀ s ∈ a, NmOk s) (hb : ∀ s ∈ b, NmOk s) : eqOk (.lst (a.map .str)) (.lst (b.map .str)) (decide (a = b)) :=
  eqOk_cl (cmp_strs ha) (cmp_strs hb) (cl_strs a) (cl_strs b) ⟨fun h => by rw [of_decide_eq_true h], fun h => decide_eq_true (str_inj (D.lst.inj h))⟩
/-- lists of rows (name, fraction) -/
def rowF (f : Str × Rat × Rat → Rat) (x : Str × Rat × Rat) : Str × D := (x.1, fr (f x))
theorem toP_fr (q : Rat) : toP (fr q) = .tuple [.int q.num, .int q.den] := rfl
theorem cmp_rows {f : Str × Rat × Rat → Rat} : ∀ {xs : List (Str × Rat × Rat)}, (∀ x ∈ xs, NmOk x.1) → pds (prs (xs.map (rowF f))) = true ∧ PyData.depthAll (toPs (prs (xs.map (rowF f)))) ≤ 3 ∧ cls (prs (xs.map (rowF f))) = true
  | [], _ => by simp [prs, pds, toPs, PyData.depthAll, cls]
  | x :: xs, h => by
    obtain ⟨h1, h2, h3⟩ := cmp_rows (f := f) fun y hy => h y (List.mem_cons_of_mem _ hy)
    have hx := (h x (List.mem_cons_self ..)).pd
    have e : prs ((x :: xs).map (rowF f)) = .tup [.str x.1, fr (f x)] :: prs (xs.map (rowF f)) := rfl
    rw [e]
    refine ⟨?_, ?_, ?_⟩
    · simp [pds, pd, fr_pd, h1]
      exact (h x (List.mem_cons_self ..)).str
    · simp only [toPs, toP, PyData.depthAll, PyData.depth, fr, Nat.max_le]
      refine ⟨?_, h2⟩
      simp [toPs, toP, PyData.depthAll, PyData.depth]
    · simp [cls, cl, h3]
      exact fr_cl _
/-- a list and the same with one thing more -/
theorem eqOk_more {xs : List D} {d : D} (h1 : pds xs = true) (h2 : PyData.depthAll (toPs xs) ≤ 60) (h3 : pd d = true) (h4 : (toP d).depth ≤ 60) : eqOk (.lst xs) (.lst (xs ++ [d])) false := by
  have dp : ∀ (xs : List D), PyData.depthAll (toPs xs) ≤ 60 → PyData.depthAll (toPs (xs ++ [d])) ≤ 60 := by
    intro xs
    induction xs with
    | nil => intro _; simp [toPs, PyData.depthAll, h4]
    | cons x xs ih =>
      intro h
      simp only [List.cons_append, toPs, PyData.depthAll, Nat.max_le] at h ⊢
      exact ⟨h.1, ih h.2⟩
  have pp : pds (xs ++ [d]) = true := pds_all.mpr fun y hy => by
    rcases List.mem_append.mp hy with z | z
    · exact pds_all.mp h1 y z
    · rw [List.mem_singleton.mp z]; exact h3
  have d1 := h2
  have d2 := dp xs h2
  refine .inr ⟨⟨h1, by simp only [toP, PyData.depth]; omega⟩, ⟨pp, by simp only [toP, PyData.depth]; omega⟩, ?_⟩
  unfold eqP
  show false = PyData.eqvAll (toPs xs) (toPs (xs ++ [d]))
  rw [SeqAt.eqvAll_other_length (by rw [toPs_map, toPs_map]; simp)]
theorem Lk.of {ρ : Rho} {i : Nat} {ks : List Str} {xs : List D} (e : ρ[i]? = some (some (.val (.fdc ks xs)))) (n : nfs xs = true) (h : (ρ.set i none).all nfA = true) : Lk ρ i ks xs :=
  ⟨e, n, fun j y q ne => List.all_eq_true.mp h y (List.mem_of_getElem? (by rw [get_set_ne ne]; exact q))⟩
theorem nf_hg : ∀ h : Hg, nf h.d = true
  | .wt _ _ => rfl
  | .pu n own l a r b => by
    have h1 := nf_hg l
    have h2 := nf_hg r
    simp [Hg.d, nf, nfs, h1, h2]
theorem nf_fr (q : Rat) : nf (fr q) = true := rfl
theorem nfs_map {α : Type} (f : α → D) (h : ∀ a, nf (f a) = true) (l : List α) : nfs (l.map f) = true := nfs_all.mpr fun d hd => by
  obtain ⟨a, _, rfl⟩ := List.mem_map.mp hd
  exact h a
theorem nfs_rows (f : Str × Rat × Rat → Rat) (xs : List (Str × Rat × Rat)) : nfs (prs (xs.map (rowF f))) = true := by
  rw [prs, List.map_map]
  exact nfs_map _ (fun a => rfl) xs
theorem nfs_rowV (f : Str × Rat × Rat → Rat) (xs : List (Str × Rat × Rat)) : nfs ((xs.map (rowF f)).map (·.2)) = true := by
  rw [List.map_map]
  exact nfs_map _ (fun a => rfl) xs
theorem nf_rdl (xs : List Int) : nf (.rdl (xs.map .int)) = true := nfs_map D.int (fun _ => rfl) xs
end FW

set_option Elab.async false
set_option linter.all false
set_option maxRecDepth 100000
set_option maxHeartbeats 4000000
namespace KW
open PySem L2 FW
def top (i : Nat) : Stmt := PySem.Challenge.pw_feltweight_k11_whole_how_all_run.main.body.getD i (.Pass ⟨0, 0, 0, 0⟩)
abbrev s_divisor : Stmt := top 3
abbrev N_divisor : List Str := ["one", "other"]
abbrev P_divisor : List Str := ["one", "other"]
theorem sc_divisor : FnScope N_divisor P_divisor (defScope s_divisor) := ⟨rfl, rfl, rfl, by decide +kernel, rfl, by decide +kernel, by decide +kernel⟩
abbrev s_fraction : Stmt := top 4
abbrev N_fraction : List Str := ["top", "bottom", "by"]
abbrev P_fraction : List Str := ["top", "bottom"]
theorem sc_fraction : FnScope N_fraction P_fraction (defScope s_fraction) := ⟨rfl, rfl, rfl, by decide +kernel, rfl, by decide +kernel, by decide +kernel⟩
abbrev s_plus : Stmt := top 5
abbrev N_plus : List Str := ["one", "other"]
abbrev P_plus : List Str := ["one", "other"]
theorem sc_plus : FnScope N_plus P_plus (defScope s_plus) := ⟨rfl, rfl, rfl, by decide +kernel, rfl, by decide +kernel, by decide +kernel⟩
abbrev s_minus : Stmt := top 6
abbrev N_minus : List Str := ["one", "other"]
abbrev P_minus : List Str := ["one", "other"]
theorem sc_minus : FnScope N_minus P_minus (defScope s_minus) := ⟨rfl, rfl, rfl, by decide +kernel, rfl, by decide +kernel, by decide +kernel⟩
abbrev s_times : Stmt := top 7
abbrev N_times : List Str := ["one", "other"]
abbrev P_times : List Str := ["one", "other"]
theorem sc_times : FnScope N_times P_times (defScope s_times) := ⟨rfl, rfl, rfl, by decide +kernel, rfl, by decide +kernel, by decide +kernel⟩
abbrev s_shared : Stmt := top 8
abbrev N_shared : List Str := ["one", "other"]
abbrev P_shared : List Str := ["one", "other"]
theorem sc_shared : FnScope N_shared P_shared (defScope s_shared) := ⟨rfl, rfl, rfl, by decide +kernel, rfl, by decide +kernel, by decide +kernel⟩
abbrev s_is_whole : Stmt := top 9
abbrev N_is_whole : List Str := ["thing", "low", "high"]
abbrev P_is_whole : List Str := ["thing", "low", "high"]
theorem sc_is_whole : FnScope N_is_whole P_is_whole (defScope s_is_whole) := ⟨rfl, rfl, rfl, by decide +kernel, rfl, by decide +kernel, by decide +kernel⟩
abbrev s_is_name : Stmt := top 17
abbrev N_is_name : List Str := ["thing", "sign"]
abbrev P_is_name : List Str := ["thing"]
theorem sc_is_name : FnScope N_is_name P_is_name (defScope s_is_name) := ⟨rfl, rfl, rfl, by decide +kernel, rfl, by decide +kernel, by decide +kernel⟩
abbrev s_is_shaped : Stmt := top 18
abbrev N_is_shaped : List Str := ["thing", "many"]
abbrev P_is_shaped : List Str := ["thing", "many"]
theorem sc_is_shaped : FnScope N_is_shaped P_is_shaped (defScope s_is_shaped) := ⟨rfl, rfl, rfl, by decide +kernel, rfl, by decide +kernel, by decide +kernel⟩
abbrev s_things_of : Stmt := top 19
abbrev N_things_of : List Str := ["hanging"]
abbrev P_things_of : List Str := ["hanging"]
theorem sc_things_of : FnScope N_things_of P_things_of (defScope s_things_of) := ⟨rfl, rfl, rfl, by decide +kernel, rfl, by decide +kernel, by decide +kernel⟩
abbrev s_weights_of : Stmt := top 20
abbrev N_weights_of : List Str := ["hanging", "one"]
abbrev P_weights_of : List Str := ["hanging"]
theorem sc_weights_of : FnScope N_weights_of P_weights_of (defScope s_weights_of) := ⟨rfl, rfl, rfl, by decide +kernel, rfl, by decide +kernel, by decide +kernel⟩
abbrev s_is_hanging : Stmt := top 21
abbrev N_is_hanging : List Str := ["thing", "names", "one"]
abbrev P_is_hanging : List Str := ["thing"]
theorem sc_is_hanging : FnScope N_is_hanging P_is_hanging (defScope s_is_hanging) := ⟨rfl, rfl, rfl, by decide +kernel, rfl, by decide +kernel, by decide +kernel⟩
abbrev s_need_hanging : Stmt := top 22
abbrev N_need_hanging : List Str := ["hanging"]
abbrev P_need_hanging : List Str := ["hanging"]
theorem sc_need_hanging : FnScope N_need_hanging P_need_hanging (defScope s_need_hanging) := ⟨rfl, rfl, rfl, by decide +kernel, rfl, by decide +kernel, by decide +kernel⟩
abbrev s_names_of : Stmt := top 23
abbrev N_names_of : List Str := ["hanging", "one"]
abbrev P_names_of : List Str := ["hanging"]
theorem sc_names_of : FnScope N_names_of P_names_of (defScope s_names_of) := ⟨rfl, rfl, rfl, by decide +kernel, rfl, by decide +kernel, by decide +kernel⟩
abbrev s_both_felt : Stmt := top 24
abbrev N_both_felt : List Str := ["own", "one", "other"]
abbrev P_both_felt : List Str := ["own", "one", "other"]
theorem sc_both_felt : FnScope N_both_felt P_both_felt (defScope s_both_felt) := ⟨rfl, rfl, rfl, by decide +kernel, rfl, by decide +kernel, by decide +kernel⟩
abbrev s_felt_of : Stmt := top 25
abbrev N_felt_of : List Str := ["hanging", "known"]
abbrev P_felt_of : List Str := ["hanging", "known"]
theorem sc_felt_of : FnScope N_felt_of P_felt_of (defScope s_felt_of) := ⟨rfl, rfl, rfl, by decide +kernel, rfl, by decide +kernel, by decide +kernel⟩
abbrev s_runs : Stmt := top 27
abbrev N_runs : List Str := ["hanging", "known", "speed", "pull", "found", "one", "other", "held_so", "end", "weight"]
abbrev P_runs : List Str := ["hanging", "known", "speed", "pull"]
theorem sc_runs : FnScope N_runs P_runs (defScope s_runs) := ⟨rfl, rfl, rfl, by decide +kernel, rfl, by decide +kernel, by decide +kernel⟩
abbrev s_all_runs : Stmt := top 28
abbrev N_all_runs : List Str := ["hanging", "known"]
abbrev P_all_runs : List Str := ["hanging", "known"]
theorem sc_all_runs : FnScope N_all_runs P_all_runs (defScope s_all_runs) := ⟨rfl, rfl, rfl, by decide +kernel, rfl, by decide +kernel, by decide +kernel⟩
abbrev s_speeds : Stmt := top 29
abbrev N_speeds : List Str := ["hanging", "name", "speed", "pull"]
abbrev P_speeds : List Str := ["hanging"]
theorem sc_speeds : FnScope N_speeds P_speeds (defScope s_speeds) := ⟨rfl, rfl, rfl, by decide +kernel, rfl, by decide +kernel, by decide +kernel⟩
abbrev s_held : Stmt := top 30
abbrev N_held : List Str := ["hanging", "name", "speed", "pull"]
abbrev P_held : List Str := ["hanging"]
theorem sc_held : FnScope N_held P_held (defScope s_held) := ⟨rfl, rfl, rfl, by decide +kernel, rfl, by decide +kernel, by decide +kernel⟩
abbrev s_is_still : Stmt := top 31
abbrev N_is_still : List Str := ["hanging", "name", "speed", "pull"]
abbrev P_is_still : List Str := ["hanging"]
theorem sc_is_still : FnScope N_is_still P_is_still (defScope s_is_still) := ⟨rfl, rfl, rfl, by decide +kernel, rfl, by decide +kernel, by decide +kernel⟩
abbrev s_rests : Stmt := top 32
abbrev N_rests : List Str := ["hanging"]
abbrev P_rests : List Str := ["hanging"]
theorem sc_rests : FnScope N_rests P_rests (defScope s_rests) := ⟨rfl, rfl, rfl, by decide +kernel, rfl, by decide +kernel, by decide +kernel⟩
abbrev s__law_well : Stmt := top 34
abbrev N__law_well : List Str := ["script", "k", "cell", "primes", "seed"]
abbrev P__law_well : List Str := ["script", "k"]
theorem sc__law_well : FnScope N__law_well P__law_well (defScope s__law_well) := ⟨rfl, rfl, rfl, by decide +kernel, rfl, by decide +kernel, by decide +kernel⟩
abbrev s__law_take : Stmt := top 35
abbrev N__law_take : List Str := ["well", "many", "drew"]
abbrev P__law_take : List Str := ["well", "many"]
theorem sc__law_take : FnScope N__law_take P__law_take (defScope s__law_take) := ⟨rfl, rfl, rfl, by decide +kernel, rfl, by decide +kernel, by decide +kernel⟩
abbrev s__law_says : Stmt := top 36
abbrev N__law_says : List Str := ["found", "due"]
abbrev P__law_says : List Str := ["found", "due"]
theorem sc__law_says : FnScope N__law_says P__law_says (defScope s__law_says) := ⟨rfl, rfl, rfl, by decide +kernel, rfl, by decide +kernel, by decide +kernel⟩
abbrev s__law_frac : Stmt := top 37
abbrev N__law_frac : List Str := ["top", "bottom", "one", "other"]
abbrev P__law_frac : List Str := ["top", "bottom"]
theorem sc__law_frac : FnScope N__law_frac P__law_frac (defScope s__law_frac) := ⟨rfl, rfl, rfl, by decide +kernel, rfl, by decide +kernel, by decide +kernel⟩
abbrev s__law_plus : Stmt := top 38
abbrev N__law_plus : List Str := ["one", "other"]
abbrev P__law_plus : List Str := ["one", "other"]
theorem sc__law_plus : FnScope N__law_plus P__law_plus (defScope s__law_plus) := ⟨rfl, rfl, rfl, by decide +kernel, rfl, by decide +kernel, by decide +kernel⟩
abbrev s__law_minus : Stmt := top 39
abbrev N__law_minus : List Str := ["one", "other"]
abbrev P__law_minus : List Str := ["one", "other"]
theorem sc__law_minus : FnScope N__law_minus P__law_minus (defScope s__law_minus) := ⟨rfl, rfl, rfl, by decide +kernel, rfl, by decide +kernel, by decide +kernel⟩
abbrev s__law_times : Stmt := top 40
abbrev N__law_times : List Str := ["one", "other"]
abbrev P__law_times : List Str := ["one", "other"]
theorem sc__law_times : FnScope N__law_times P__law_times (defScope s__law_times) := ⟨rfl, rfl, rfl, by decide +kernel, rfl, by decide +kernel, by decide +kernel⟩
abbrev s__law_heavy : Stmt := top 41
abbrev N__law_heavy : List Str := ["well"]
abbrev P__law_heavy : List Str := ["well"]
theorem sc__law_heavy : FnScope N__law_heavy P__law_heavy (defScope s__law_heavy) := ⟨rfl, rfl, rfl, by decide +kernel, rfl, by decide +kernel, by decide +kernel⟩
abbrev s__law_hung : Stmt := top 42
abbrev N__law_hung : List Str := ["well", "many", "names", "name", "part", "left", "right", "own"]
abbrev P__law_hung : List Str := ["well", "many", "names"]
theorem sc__law_hung : FnScope N__law_hung P__law_hung (defScope s__law_hung) := ⟨rfl, rfl, rfl, by decide +kernel, rfl, by decide +kernel, by decide +kernel⟩
abbrev s__law_hanging : Stmt := top 43
abbrev N__law_hanging : List Str := ["well", "top", "names", "drawn"]
abbrev P__law_hanging : List Str := ["well", "top"]
theorem sc__law_hanging : FnScope N__law_hanging P__law_hanging (defScope s__law_hanging) := ⟨rfl, rfl, rfl, by decide +kernel, rfl, by decide +kernel, by decide +kernel⟩
abbrev s__law_things : Stmt := top 44
abbrev N__law_things : List Str := ["hanging"]
abbrev P__law_things : List Str := ["hanging"]
theorem sc__law_things : FnScope N__law_things P__law_things (defScope s__law_things) := ⟨rfl, rfl, rfl, by decide +kernel, rfl, by decide +kernel, by decide +kernel⟩
abbrev s__law_by : Stmt := top 45
abbrev N__law_by : List Str := ["one", "other"]
abbrev P__law_by : List Str := ["one", "other"]
theorem sc__law_by : FnScope N__law_by P__law_by (defScope s__law_by) := ⟨rfl, rfl, rfl, by decide +kernel, rfl, by decide +kernel, by decide +kernel⟩
abbrev s__law_felt : Stmt := top 46
abbrev N__law_felt : List Str := ["hanging", "known", "one", "other", "both"]
abbrev P__law_felt : List Str := ["hanging", "known"]
theorem sc__law_felt : FnScope N__law_felt P__law_felt (defScope s__law_felt) := ⟨rfl, rfl, rfl, by decide +kernel, rfl, by decide +kernel, by decide +kernel⟩
abbrev s__law_speeds : Stmt := top 47
abbrev N__law_speeds : List Str := ["hanging", "known", "speed", "found", "one", "other", "rest", "both", "end", "beside", "part"]
abbrev P__law_speeds : List Str := ["hanging", "known", "speed"]
theorem sc__law_speeds : FnScope N__law_speeds P__law_speeds (defScope s__law_speeds) := ⟨rfl, rfl, rfl, by decide +kernel, rfl, by decide +kernel, by decide +kernel⟩
abbrev s__law_agrees : Stmt := top 48
abbrev N__law_agrees : List Str := ["hanging", "run", "pull", "rest", "one", "other", "both", "due"]
abbrev P__law_agrees : List Str := ["hanging", "run", "pull"]
theorem sc__law_agrees : FnScope N__law_agrees P__law_agrees (defScope s__law_agrees) := ⟨rfl, rfl, rfl, by decide +kernel, rfl, by decide +kernel, by decide +kernel⟩
abbrev s__law_even : Stmt := top 49
abbrev N__law_even : List Str := ["hanging", "thing"]
abbrev P__law_even : List Str := ["hanging"]
theorem sc__law_even : FnScope N__law_even P__law_even (defScope s__law_even) := ⟨rfl, rfl, rfl, by decide +kernel, rfl, by decide +kernel, by decide +kernel⟩
abbrev s__law_still : Stmt := top 50
abbrev N__law_still : List Str := ["well", "whole", "deep", "names", "half", "name", "one"]
abbrev P__law_still : List Str := ["well", "whole", "deep", "names"]
theorem sc__law_still : FnScope N__law_still P__law_still (defScope s__law_still) := ⟨rfl, rfl, rfl, by decide +kernel, rfl, by decide +kernel, by decide +kernel⟩
abbrev s_law : Stmt := top 51
abbrev N_law : List Str := ["script", "k", "well", "names", "still", "hanging", "told", "pulls", "run", "pull", "still_so", "sign", "row", "name"]
abbrev P_law : List Str := ["script"]
theorem sc_law : FnScope N_law P_law (defScope s_law) := ⟨rfl, rfl, rfl, by decide +kernel, rfl, by decide +kernel, by decide +kernel⟩
/-- what the top has laid -/
structure Txt (K : PySem.W.Frag) (mg : Str → Option Value) : Prop where
  d_divisor : ∃ f fd, L2.Fun K "divisor" "divisor" s_divisor f fd ∧ mg "divisor" = some (.ref f) ∧ Binds K fd P_divisor []
  d_fraction : ∃ f fd, L2.Fun K "fraction" "fraction" s_fraction f fd ∧ mg "fraction" = some (.ref f) ∧ Binds K fd P_fraction []
  d_plus : ∃ f fd, L2.Fun K "plus" "plus" s_plus f fd ∧ mg "plus" = some (.ref f) ∧ Binds K fd P_plus []
  d_minus : ∃ f fd, L2.Fun K "minus" "minus" s_minus f fd ∧ mg "minus" = some (.ref f) ∧ Binds K fd P_minus []
  d_times : ∃ f fd, L2.Fun K "times" "times" s_times f fd ∧ mg "times" = some (.ref f) ∧ Binds K fd P_times []
  d_shared : ∃ f fd, L2.Fun K "shared" "shared" s_shared f fd ∧ mg "shared" = some (.ref f) ∧ Binds K fd P_shared []
  d_is_whole : ∃ f fd, L2.Fun K "is_whole" "is_whole" s_is_whole f fd ∧ mg "is_whole" = some (.ref f) ∧ Binds K fd P_is_whole []
  d_is_name : ∃ f fd, L2.Fun K "is_name" "is_name" s_is_name f fd ∧ mg "is_name" = some (.ref f) ∧ Binds K fd P_is_name []
  d_is_shaped : ∃ f fd, L2.Fun K "is_shaped" "is_shaped" s_is_shaped f fd ∧ mg "is_shaped" = some (.ref f) ∧ Binds K fd P_is_shaped []
  d_things_of : ∃ f fd, L2.Fun K "things_of" "things_of" s_things_of f fd ∧ mg "things_of" = some (.ref f) ∧ Binds K fd P_things_of []
  d_weights_of : ∃ f fd, L2.Fun K "weights_of" "weights_of" s_weights_of f fd ∧ mg "weights_of" = some (.ref f) ∧ Binds K fd P_weights_of []
  d_is_hanging : ∃ f fd, L2.Fun K "is_hanging" "is_hanging" s_is_hanging f fd ∧ mg "is_hanging" = some (.ref f) ∧ Binds K fd P_is_hanging []
  d_need_hanging : ∃ f fd, L2.Fun K "need_hanging" "need_hanging" s_need_hanging f fd ∧ mg "need_hanging" = some (.ref f) ∧ Binds K fd P_need_hanging []
  d_names_of : ∃ f fd, L2.Fun K "names_of" "names_of" s_names_of f fd ∧ mg "names_of" = some (.ref f) ∧ Binds K fd P_names_of []
  d_both_felt : ∃ f fd, L2.Fun K "both_felt" "both_felt" s_both_felt f fd ∧ mg "both_felt" = some (.ref f) ∧ Binds K fd P_both_felt []
  d_felt_of : ∃ f fd, L2.Fun K "felt_of" "felt_of" s_felt_of f fd ∧ mg "felt_of" = some (.ref f) ∧ Binds K fd P_felt_of []
  d_runs : ∃ f fd, L2.Fun K "runs" "runs" s_runs f fd ∧ mg "runs" = some (.ref f) ∧ Binds K fd P_runs []
  d_all_runs : ∃ f fd, L2.Fun K "all_runs" "all_runs" s_all_runs f fd ∧ mg "all_runs" = some (.ref f) ∧ Binds K fd P_all_runs []
  d_speeds : ∃ f fd, L2.Fun K "speeds" "speeds" s_speeds f fd ∧ mg "speeds" = some (.ref f) ∧ Binds K fd P_speeds []
  d_held : ∃ f fd, L2.Fun K "held" "held" s_held f fd ∧ mg "held" = some (.ref f) ∧ Binds K fd P_held []
  d_is_still : ∃ f fd, L2.Fun K "is_still" "is_still" s_is_still f fd ∧ mg "is_still" = some (.ref f) ∧ Binds K fd P_is_still []
  d_rests : ∃ f fd, L2.Fun K "rests" "rests" s_rests f fd ∧ mg "rests" = some (.ref f) ∧ Binds K fd P_rests []
  d__law_well : ∃ f fd, L2.Fun K "_law_well" "_law_well" s__law_well f fd ∧ mg "_law_well" = some (.ref f) ∧ Binds K fd P__law_well []
  d__law_take : ∃ f fd, L2.Fun K "_law_take" "_law_take" s__law_take f fd ∧ mg "_law_take" = some (.ref f) ∧ Binds K fd P__law_take []
  d__law_says : ∃ f fd, L2.Fun K "_law_says" "_law_says" s__law_says f fd ∧ mg "_law_says" = some (.ref f) ∧ Binds K fd P__law_says []
  d__law_frac : ∃ f fd, L2.Fun K "_law_frac" "_law_frac" s__law_frac f fd ∧ mg "_law_frac" = some (.ref f) ∧ Binds K fd P__law_frac []
  d__law_plus : ∃ f fd, L2.Fun K "_law_plus" "_law_plus" s__law_plus f fd ∧ mg "_law_plus" = some (.ref f) ∧ Binds K fd P__law_plus []
  d__law_minus : ∃ f fd, L2.Fun K "_law_minus" "_law_minus" s__law_minus f fd ∧ mg "_law_minus" = some (.ref f) ∧ Binds K fd P__law_minus []
  d__law_times : ∃ f fd, L2.Fun K "_law_times" "_law_times" s__law_times f fd ∧ mg "_law_times" = some (.ref f) ∧ Binds K fd P__law_times []
  d__law_heavy : ∃ f fd, L2.Fun K "_law_heavy" "_law_heavy" s__law_heavy f fd ∧ mg "_law_heavy" = some (.ref f) ∧ Binds K fd P__law_heavy []
  d__law_hung : ∃ f fd, L2.Fun K "_law_hung" "_law_hung" s__law_hung f fd ∧ mg "_law_hung" = some (.ref f) ∧ Binds K fd P__law_hung []
  d__law_hanging : ∃ f fd, L2.Fun K "_law_hanging" "_law_hanging" s__law_hanging f fd ∧ mg "_law_hanging" = some (.ref f) ∧ Binds K fd P__law_hanging []
  d__law_things : ∃ f fd, L2.Fun K "_law_things" "_law_things" s__law_things f fd ∧ mg "_law_things" = some (.ref f) ∧ Binds K fd P__law_things []
  d__law_by : ∃ f fd, L2.Fun K "_law_by" "_law_by" s__law_by f fd ∧ mg "_law_by" = some (.ref f) ∧ Binds K fd P__law_by []
  d__law_felt : ∃ f fd, L2.Fun K "_law_felt" "_law_felt" s__law_felt f fd ∧ mg "_law_felt" = some (.ref f) ∧ Binds K fd P__law_felt []
  d__law_speeds : ∃ f fd, L2.Fun K "_law_speeds" "_law_speeds" s__law_speeds f fd ∧ mg "_law_speeds" = some (.ref f) ∧ Binds K fd P__law_speeds []
  d__law_agrees : ∃ f fd, L2.Fun K "_law_agrees" "_law_agrees" s__law_agrees f fd ∧ mg "_law_agrees" = some (.ref f) ∧ Binds K fd P__law_agrees []
  d__law_even : ∃ f fd, L2.Fun K "_law_even" "_law_even" s__law_even f fd ∧ mg "_law_even" = some (.ref f) ∧ Binds K fd P__law_even []
  d__law_still : ∃ f fd, L2.Fun K "_law_still" "_law_still" s__law_still f fd ∧ mg "_law_still" = some (.ref f) ∧ Binds K fd P__law_still []
  d_law : ∃ f fd, L2.Fun K "law" "law" s_law f fd ∧ mg "law" = some (.ref f) ∧ Binds K fd P_law []
  n_NOUGHT : ∃ u v, mg "NOUGHT" = some u ∧ RelV v u ∧ ∀ H, Rep K H v (.tup [.int 0, .int 1])
  n_ONE : ∃ u v, mg "ONE" = some u ∧ RelV v u ∧ ∀ H, Rep K H v (.tup [.int 1, .int 1])
  n_LETTERS : ∃ u v, mg "LETTERS" = some u ∧ RelV v u ∧ ∀ H, Rep K H v (.str "abcdefghijklmnopqrstuvwxyz")
  n_MOST : ∃ u v, mg "MOST" = some u ∧ RelV v u ∧ ∀ H, Rep K H v (.int 1000)
  n_MOST_WEIGHTS : ∃ u v, mg "MOST_WEIGHTS" = some u ∧ RelV v u ∧ ∀ H, Rep K H v (.int 8)
  b_abs : mg "abs" = none
  b_bool : mg "bool" = none
  b_int : mg "int" = none
  b_isinstance : mg "isinstance" = none
  b_all : mg "all" = none
  b_len : mg "len" = none
  b_str : mg "str" = none
  b_tuple : mg "tuple" = none
  b_set : mg "set" = none
  b_sorted : mg "sorted" = none
  b_dict : mg "dict" = none
  b_max : mg "max" = none
  b_min : mg "min" = none
  b_range : mg "range" = none
theorem gdef {P : Program} {w : World} {K : PySem.W.Frag} {mg : Str → Option Value} {base : Heap} {x : Str} {st : Stmt} {ps : List Str} {k : Nat} {S : FSp} (h : ∃ f fd, L2.Fun K x x st f fd ∧ mg x = some (.ref f) ∧ Binds K fd ps []) (F : ∀ f fd, L2.Fun K x x st f fd → FnOk P w K mg base CX0 k f fd ps (SpOf K S)) : GDef P w K mg base x k S := by
  obtain ⟨f, fd, h1, h2, h3⟩ := h
  exact ⟨f, fd, ps, F f fd h1, h2, h1.kp, h3⟩
abbrev G_divisor : List Str := []
theorem hG_divisor : okG (defScope s_divisor) G_divisor = true := by decide +kernel
theorem fx_divisor {P : Program} {w : World} {K : PySem.W.Frag} {mg : Str → Option Value} {base : Heap} {k : Nat} {g : G} (T : Txt K mg) (hg : Here P w K mg base N_divisor (defScope s_divisor) k true g) :
    SlotV g.X "one" 0 ∧ SlotV g.X "other" 1 ∧ SlotW g.X "one" 0 ∧ SlotW g.X "other" 1 ∧ Lcl g.X "one" ∧ Lcl g.X "other" ∧ Ct g.X k := by
  have hv : okV N_divisor (defScope s_divisor) [("one", 0), ("other", 1)] = true := by decide +kernel
  have hw : okW N_divisor (defScope s_divisor) [("one", 0), ("other", 1)] = true := by decide +kernel
  have hl : (["one", "other"] : List Str).all (fun x => match (defScope s_divisor).names.lookup x with | some .local => true | _ => false) = true := by decide +kernel
  have hG := hG_divisor
  exact ⟨hg.v hv (.head _),
    hg.v hv (.tail _ (.head _)),
    hg.s hw (.head _),
    hg.s hw (.tail _ (.head _)),
    hg.l hl (.head _),
    hg.l hl (.tail _ (.head _)),
    hg.ct⟩
-- obtain ⟨v_one, v_other, w_one, w_other, l_one, l_other, ct⟩ := fx_divisor T hg
abbrev G_fraction : List Str := ["divisor", "abs"]
theorem hG_fraction : okG (defScope s_fraction) G_fraction = true := by decide +kernel
theorem fx_fraction {P : Program} {w : World} {K : PySem.W.Frag} {mg : Str → Option Value} {base : Heap} {k : Nat} {g : G} (T : Txt K mg) (hg : Here P w K mg base N_fraction (defScope s_fraction) k true g) :
    SlotV g.X "top" 0 ∧ SlotV g.X "bottom" 1 ∧ SlotV g.X "by" 2 ∧ SlotW g.X "top" 0 ∧ SlotW g.X "bottom" 1 ∧ SlotW g.X "by" 2 ∧ Lcl g.X "top" ∧ Lcl g.X "bottom" ∧ Lcl g.X "by" ∧ Blt g.X "abs" (.builtin "abs") ∧ Ct g.X k := by
  have hv : okV N_fraction (defScope s_fraction) [("top", 0), ("bottom", 1), ("by", 2)] = true := by decide +kernel
  have hw : okW N_fraction (defScope s_fraction) [("top", 0), ("bottom", 1), ("by", 2)] = true := by decide +kernel
  have hl : (["top", "bottom", "by"] : List Str).all (fun x => match (defScope s_fraction).names.lookup x with | some .local => true | _ => false) = true := by decide +kernel
  have hG := hG_fraction
  exact ⟨hg.v hv (.head _),
    hg.v hv (.tail _ (.head _)),
    hg.v hv (.tail _ (.tail _ (.head _))),
    hg.s hw (.head _),
    hg.s hw (.tail _ (.head _)),
    hg.s hw (.tail _ (.tail _ (.head _))),
    hg.l hl (.head _),
    hg.l hl (.tail _ (.head _)),
    hg.l hl (.tail _ (.tail _ (.head _))),
    hg.blt hG T.b_abs (by decide +kernel) (.tail _ (.head _)),
    hg.ct⟩
theorem ca_fraction_divisor {P : Program} {w : World} {K : PySem.W.Frag} {mg : Str → Option Value} {base : Heap} {k : Nat} {g : G} {S : FSp} {j : Nat} (hg : Here P w K mg base N_fraction (defScope s_fraction) k true g) (d : GDef P w K mg base "divisor" j S) (hj : j ≤ k := by decide) : Cal g.X "divisor" S := hg.cal hG_fraction d hj (.head _)
-- obtain ⟨v_top, v_bottom, v_by, w_top, w_bottom, w_by, l_top, l_bottom, l_by, b_abs, ct⟩ := fx_fraction T hg
abbrev G_plus : List Str := ["fraction"]
theorem hG_plus : okG (defScope s_plus) G_plus = true := by decide +kernel
theorem fx_plus {P : Program} {w : World} {K : PySem.W.Frag} {mg : Str → Option Value} {base : Heap} {k : Nat} {g : G} (T : Txt K mg) (hg : Here P w K mg base N_plus (defScope s_plus) k true g) :
    SlotV g.X "one" 0 ∧ SlotV g.X "other" 1 ∧ SlotW g.X "one" 0 ∧ SlotW g.X "other" 1 ∧ Lcl g.X "one" ∧ Lcl g.X "other" ∧ Ct g.X k := by
  have hv : okV N_plus (defScope s_plus) [("one", 0), ("other", 1)] = true := by decide +kernel
  have hw : okW N_plus (defScope s_plus) [("one", 0), ("other", 1)] = true := by decide +kernel
  have hl : (["one", "other"] : List Str).all (fun x => match (defScope s_plus).names.lookup x with | some .local => true | _ => false) = true := by decide +kernel
  have hG := hG_plus
  exact ⟨hg.v hv (.head _),
    hg.v hv (.tail _ (.head _)),
    hg.s hw (.head _),
    hg.s hw (.tail _ (.head _)),
    hg.l hl (.head _),
    hg.l hl (.tail _ (.head _)),
    hg.ct⟩
theorem ca_plus_fraction {P : Program} {w : World} {K : PySem.W.Frag} {mg : Str → Option Value} {base : Heap} {k : Nat} {g : G} {S : FSp} {j : Nat} (hg : Here P w K mg base N_plus (defScope s_plus) k true g) (d : GDef P w K mg base "fraction" j S) (hj : j ≤ k := by decide) : Cal g.X "fraction" S := hg.cal hG_plus d hj (.head _)
-- obtain ⟨v_one, v_other, w_one, w_other, l_one, l_other, ct⟩ := fx_plus T hg
abbrev G_minus : List Str := ["fraction"]
theorem hG_minus : okG (defScope s_minus) G_minus = true := by decide +kernel
theorem fx_minus {P : Program} {w : World} {K : PySem.W.Frag} {mg : Str → Option Value} {base : Heap} {k : Nat} {g : G} (T : Txt K mg) (hg : Here P w K mg base N_minus (defScope s_minus) k true g) :
    SlotV g.X "one" 0 ∧ SlotV g.X "other" 1 ∧ SlotW g.X "one" 0 ∧ SlotW g.X "other" 1 ∧ Lcl g.X "one" ∧ Lcl g.X "other" ∧ Ct g.X k := by
  have hv : okV N_minus (defScope s_minus) [("one", 0), ("other", 1)] = true := by decide +kernel
  have hw : okW N_minus (defScope s_minus) [("one", 0), ("other", 1)] = true := by decide +kernel
  have hl : (["one", "other"] : List Str).all (fun x => match (defScope s_minus).names.lookup x with | some .local => true | _ => false) = true := by decide +kernel
  have hG := hG_minus
  exact ⟨hg.v hv (.head _),
    hg.v hv (.tail _ (.head _)),
    hg.s hw (.head _),
    hg.s hw (.tail _ (.head _)),
    hg.l hl (.head _),
    hg.l hl (.tail _ (.head _)),
    hg.ct⟩
theorem ca_minus_fraction {P : Program} {w : World} {K : PySem.W.Frag} {mg : Str → Option Value} {base : Heap} {k : Nat} {g : G} {S : FSp} {j : Nat} (hg : Here P w K mg base N_minus (defScope s_minus) k true g) (d : GDef P w K mg base "fraction" j S) (hj : j ≤ k := by decide) : Cal g.X "fraction" S := hg.cal hG_minus d hj (.head _)
-- obtain ⟨v_one, v_other, w_one, w_other, l_one, l_other, ct⟩ := fx_minus T hg
abbrev G_times : List Str := ["fraction"]
theorem hG_times : okG (defScope s_times) G_times = true := by decide +kernel
theorem fx_times {P : Program} {w : World} {K : PySem.W.Frag} {mg : Str → Option Value} {base : Heap} {k : Nat} {g : G} (T : Txt K mg) (hg : Here P w K mg base N_times (defScope s_times) k true g) :
    SlotV g.X "one" 0 ∧ SlotV g.X "other" 1 ∧ SlotW g.X "one" 0 ∧ SlotW g.X "other" 1 ∧ Lcl g.X "one" ∧ Lcl g.X "other" ∧ Ct g.X k := by
  have hv : okV N_times (defScope s_times) [("one", 0), ("other", 1)] = true := by decide +kernel
  have hw : okW N_times (defScope s_times) [("one", 0), ("other", 1)] = true := by decide +kernel
  have hl : (["one", "other"] : List Str).all (fun x => match (defScope s_times).names.lookup x with | some .local => true | _ => false) = true := by decide +kernel
  have hG := hG_times
  exact ⟨hg.v hv (.head _),
    hg.v hv (.tail _ (.head _)),
    hg.s hw (.head _),
    hg.s hw (.tail _ (.head _)),
    hg.l hl (.head _),
    hg.l hl (.tail _ (.head _)),
    hg.ct⟩
theorem ca_times_fraction {P : Program} {w : World} {K : PySem.W.Frag} {mg : Str → Option Value} {base : Heap} {k : Nat} {g : G} {S : FSp} {j : Nat} (hg : Here P w K mg base N_times (defScope s_times) k true g) (d : GDef P w K mg base "fraction" j S) (hj : j ≤ k := by decide) : Cal g.X "fraction" S := hg.cal hG_times d hj (.head _)
-- obtain ⟨v_one, v_other, w_one, w_other, l_one, l_other, ct⟩ := fx_times T hg
abbrev G_shared : List Str := ["fraction"]
theorem hG_shared : okG (defScope s_shared) G_shared = true := by decide +kernel
theorem fx_shared {P : Program} {w : World} {K : PySem.W.Frag} {mg : Str → Option Value} {base : Heap} {k : Nat} {g : G} (T : Txt K mg) (hg : Here P w K mg base N_shared (defScope s_shared) k true g) :
    SlotV g.X "one" 0 ∧ SlotV g.X "other" 1 ∧ SlotW g.X "one" 0 ∧ SlotW g.X "other" 1 ∧ Lcl g.X "one" ∧ Lcl g.X "other" ∧ Ct g.X k := by
  have hv : okV N_shared (defScope s_shared) [("one", 0), ("other", 1)] = true := by decide +kernel
  have hw : okW N_shared (defScope s_shared) [("one", 0), ("other", 1)] = true := by decide +kernel
  have hl : (["one", "other"] : List Str).all (fun x => match (defScope s_shared).names.lookup x with | some .local => true | _ => false) = true := by decide +kernel
  have hG := hG_shared
  exact ⟨hg.v hv (.head _),
    hg.v hv (.tail _ (.head _)),
    hg.s hw (.head _),
    hg.s hw (.tail _ (.head _)),
    hg.l hl (.head _),
    hg.l hl (.tail _ (.head _)),
    hg.ct⟩
theorem ca_shared_fraction {P : Program} {w : World} {K : PySem.W.Frag} {mg : Str → Option Value} {base : Heap} {k : Nat} {g : G} {S : FSp} {j : Nat} (hg : Here P w K mg base N_shared (defScope s_shared) k true g) (d : GDef P w K mg base "fraction" j S) (hj : j ≤ k := by decide) : Cal g.X "fraction" S := hg.cal hG_shared d hj (.head _)
-- obtain ⟨v_one, v_other, w_one, w_other, l_one, l_other, ct⟩ := fx_shared T hg
abbrev G_is_whole : List Str := ["isinstance", "int", "bool"]
theorem hG_is_whole : okG (defScope s_is_whole) G_is_whole = true := by decide +kernel
theorem fx_is_whole {P : Program} {w : World} {K : PySem.W.Frag} {mg : Str → Option Value} {base : Heap} {k : Nat} {g : G} (T : Txt K mg) (hg : Here P w K mg base N_is_whole (defScope s_is_whole) k true g) :
    SlotV g.X "thing" 0 ∧ SlotV g.X "low" 1 ∧ SlotV g.X "high" 2 ∧ SlotW g.X "thing" 0 ∧ SlotW g.X "low" 1 ∧ SlotW g.X "high" 2 ∧ Lcl g.X "thing" ∧ Lcl g.X "low" ∧ Lcl g.X "high" ∧ Blt g.X "isinstance" (.builtin "isinstance") ∧ Blt g.X "int" (.type "int") ∧ Blt g.X "bool" (.type "bool") ∧ Ct g.X k := by
  have hv : okV N_is_whole (defScope s_is_whole) [("thing", 0), ("low", 1), ("high", 2)] = true := by decide +kernel
  have hw : okW N_is_whole (defScope s_is_whole) [("thing", 0), ("low", 1), ("high", 2)] = true := by decide +kernel
  have hl : (["thing", "low", "high"] : List Str).all (fun x => match (defScope s_is_whole).names.lookup x with | some .local => true | _ => false) = true := by decide +kernel
  have hG := hG_is_whole
  exact ⟨hg.v hv (.head _),
    hg.v hv (.tail _ (.head _)),
    hg.v hv (.tail _ (.tail _ (.head _))),
    hg.s hw (.head _),
    hg.s hw (.tail _ (.head _)),
    hg.s hw (.tail _ (.tail _ (.head _))),
    hg.l hl (.head _),
    hg.l hl (.tail _ (.head _)),
    hg.l hl (.tail _ (.tail _ (.head _))),
    hg.blt hG T.b_isinstance (by decide +kernel) (.head _),
    hg.blt hG T.b_int (by decide +kernel) (.tail _ (.head _)),
    hg.blt hG T.b_bool (by decide +kernel) (.tail _ (.tail _ (.head _))),
    hg.ct⟩
-- obtain ⟨v_thing, v_low, v_high, w_thing, w_low, w_high, l_thing, l_low, l_high, b_isinstance, b_int, b_bool, ct⟩ := fx_is_whole T hg
abbrev G_is_name : List Str := ["isinstance", "str", "len", "all"]
theorem hG_is_name : okG (defScope s_is_name) G_is_name = true := by decide +kernel
theorem fx_is_name {P : Program} {w : World} {K : PySem.W.Frag} {mg : Str → Option Value} {base : Heap} {k : Nat} {g : G} (T : Txt K mg) (hg : Here P w K mg base N_is_name (defScope s_is_name) k true g) :
    SlotV g.X "thing" 0 ∧ SlotW g.X "thing" 0 ∧ Lcl g.X "thing" ∧ Blt g.X "isinstance" (.builtin "isinstance") ∧ Blt g.X "str" (.type "str") ∧ Blt g.X "len" (.builtin "len") ∧ Blt g.X "all" (.builtin "all") ∧ Ct g.X k := by
  have hv : okV N_is_name (defScope s_is_name) [("thing", 0)] = true := by decide +kernel
  have hw : okW N_is_name (defScope s_is_name) [("thing", 0)] = true := by decide +kernel
  have hl : (["thing"] : List Str).all (fun x => match (defScope s_is_name).names.lookup x with | some .local => true | _ => false) = true := by decide +kernel
  have hG := hG_is_name
  exact ⟨hg.v hv (.head _),
    hg.s hw (.head _),
    hg.l hl (.head _),
    hg.blt hG T.b_isinstance (by decide +kernel) (.head _),
    hg.blt hG T.b_str (by decide +kernel) (.tail _ (.head _)),
    hg.blt hG T.b_len (by decide +kernel) (.tail _ (.tail _ (.head _))),
    hg.blt hG T.b_all (by decide +kernel) (.tail _ (.tail _ (.tail _ (.head _)))),
    hg.ct⟩
-- obtain ⟨v_thing, w_thing, l_thing, b_isinstance, b_str, b_len, b_all, ct⟩ := fx_is_name T hg
abbrev G_is_shaped : List Str := ["isinstance", "tuple", "len", "is_name", "is_whole", "MOST", "is_shaped", "weights_of"]
theorem hG_is_shaped : okG (defScope s_is_shaped) G_is_shaped = true := by decide +kernel
theorem fx_is_shaped {P : Program} {w : World} {K : PySem.W.Frag} {mg : Str → Option Value} {base : Heap} {k : Nat} {g : G} (T : Txt K mg) (hg : Here P w K mg base N_is_shaped (defScope s_is_shaped) k true g) :
    SlotV g.X "thing" 0 ∧ SlotV g.X "many" 1 ∧ SlotW g.X "thing" 0 ∧ SlotW g.X "many" 1 ∧ Lcl g.X "thing" ∧ Lcl g.X "many" ∧ Blt g.X "isinstance" (.builtin "isinstance") ∧ Blt g.X "tuple" (.type "tuple") ∧ Blt g.X "len" (.builtin "len") ∧ Glo g.X "MOST" (.int 1000) ∧ Ct g.X k := by
  have hv : okV N_is_shaped (defScope s_is_shaped) [("thing", 0), ("many", 1)] = true := by decide +kernel
  have hw : okW N_is_shaped (defScope s_is_shaped) [("thing", 0), ("many", 1)] = true := by decide +kernel
  have hl : (["thing", "many"] : List Str).all (fun x => match (defScope s_is_shaped).names.lookup x with | some .local => true | _ => false) = true := by decide +kernel
  have hG := hG_is_shaped
  exact ⟨hg.v hv (.head _),
    hg.v hv (.tail _ (.head _)),
    hg.s hw (.head _),
    hg.s hw (.tail _ (.head _)),
    hg.l hl (.head _),
    hg.l hl (.tail _ (.head _)),
    hg.blt hG T.b_isinstance (by decide +kernel) (.head _),
    hg.blt hG T.b_tuple (by decide +kernel) (.tail _ (.head _)),
    hg.blt hG T.b_len (by decide +kernel) (.tail _ (.tail _ (.head _))),
    hg.glo hG T.n_MOST (.tail _ (.tail _ (.tail _ (.tail _ (.tail _ (.head _)))))),
    hg.ct⟩
theorem ca_is_shaped_is_name {P : Program} {w : World} {K : PySem.W.Frag} {mg : Str → Option Value} {base : Heap} {k : Nat} {g : G} {S : FSp} {j : Nat} (hg : Here P w K mg base N_is_shaped (defScope s_is_shaped) k true g) (d : GDef P w K mg base "is_name" j S) (hj : j ≤ k := by decide) : Cal g.X "is_name" S := hg.cal hG_is_shaped d hj (.tail _ (.tail _ (.tail _ (.head _))))
theorem ca_is_shaped_is_whole {P : Program} {w : World} {K : PySem.W.Frag} {mg : Str → Option Value} {base : Heap} {k : Nat} {g : G} {S : FSp} {j : Nat} (hg : Here P w K mg base N_is_shaped (defScope s_is_shaped) k true g) (d : GDef P w K mg base "is_whole" j S) (hj : j ≤ k := by decide) : Cal g.X "is_whole" S := hg.cal hG_is_shaped d hj (.tail _ (.tail _ (.tail _ (.tail _ (.head _)))))
theorem ca_is_shaped_is_shaped {P : Program} {w : World} {K : PySem.W.Frag} {mg : Str → Option Value} {base : Heap} {k : Nat} {g : G} {S : FSp} {j : Nat} (hg : Here P w K mg base N_is_shaped (defScope s_is_shaped) k true g) (d : GDef P w K mg base "is_shaped" j S) (hj : j ≤ k := by decide) : Cal g.X "is_shaped" S := hg.cal hG_is_shaped d hj (.tail _ (.tail _ (.tail _ (.tail _ (.tail _ (.tail _ (.head _)))))))
theorem ca_is_shaped_weights_of {P : Program} {w : World} {K : PySem.W.Frag} {mg : Str → Option Value} {base : Heap} {k : Nat} {g : G} {S : FSp} {j : Nat} (hg : Here P w K mg base N_is_shaped (defScope s_is_shaped) k true g) (d : GDef P w K mg base "weights_of" j S) (hj : j ≤ k := by decide) : Cal g.X "weights_of" S := hg.cal hG_is_shaped d hj (.tail _ (.tail _ (.tail _ (.tail _ (.tail _ (.tail _ (.tail _ (.head _))))))))
-- obtain ⟨v_thing, v_many, w_thing, w_many, l_thing, l_many, b_isinstance, b_tuple, b_len, n_MOST, ct⟩ := fx_is_shaped T hg
abbrev G_things_of : List Str := ["len", "things_of"]
theorem hG_things_of : okG (defScope s_things_of) G_things_of = true := by decide +kernel
theorem fx_things_of {P : Program} {w : World} {K : PySem.W.Frag} {mg : Str → Option Value} {base : Heap} {k : Nat} {g : G} (T : Txt K mg) (hg : Here P w K mg base N_things_of (defScope s_things_of) k true g) :
    SlotV g.X "hanging" 0 ∧ SlotW g.X "hanging" 0 ∧ Lcl g.X "hanging" ∧ Blt g.X "len" (.builtin "len") ∧ Ct g.X k := by
  have hv : okV N_things_of (defScope s_things_of) [("hanging", 0)] = true := by decide +kernel
  have hw : okW N_things_of (defScope s_things_of) [("hanging", 0)] = true := by decide +kernel
  have hl : (["hanging"] : List Str).all (fun x => match (defScope s_things_of).names.lookup x with | some .local => true | _ => false) = true := by decide +kernel
  have hG := hG_things_of
  exact ⟨hg.v hv (.head _),
    hg.s hw (.head _),
    hg.l hl (.head _),
    hg.blt hG T.b_len (by decide +kernel) (.head _),
    hg.ct⟩
theorem ca_things_of_things_of {P : Program} {w : World} {K : PySem.W.Frag} {mg : Str → Option Value} {base : Heap} {k : Nat} {g : G} {S : FSp} {j : Nat} (hg : Here P w K mg base N_things_of (defScope s_things_of) k true g) (d : GDef P w K mg base "things_of" j S) (hj : j ≤ k := by decide) : Cal g.X "things_of" S := hg.cal hG_things_of d hj (.tail _ (.head _))
-- obtain ⟨v_hanging, w_hanging, l_hanging, b_len, ct⟩ := fx_things_of T hg
abbrev G_weights_of : List Str := ["things_of"]
theorem hG_weights_of : okG (defScope s_weights_of) G_weights_of = true := by decide +kernel
theorem fx_weights_of {P : Program} {w : World} {K : PySem.W.Frag} {mg : Str → Option Value} {base : Heap} {k : Nat} {g : G} (T : Txt K mg) (hg : Here P w K mg base N_weights_of (defScope s_weights_of) k true g) :
    SlotV g.X "hanging" 0 ∧ SlotW g.X "hanging" 0 ∧ Lcl g.X "hanging" ∧ Ct g.X k := by
  have hv : okV N_weights_of (defScope s_weights_of) [("hanging", 0)] = true := by decide +kernel
  have hw : okW N_weights_of (defScope s_weights_of) [("hanging", 0)] = true := by decide +kernel
  have hl : (["hanging"] : List Str).all (fun x => match (defScope s_weights_of).names.lookup x with | some .local => true | _ => false) = true := by decide +kernel
  have hG := hG_weights_of
  exact ⟨hg.v hv (.head _),
    hg.s hw (.head _),
    hg.l hl (.head _),
    hg.ct⟩
theorem ca_weights_of_things_of {P : Program} {w : World} {K : PySem.W.Frag} {mg : Str → Option Value} {base : Heap} {k : Nat} {g : G} {S : FSp} {j : Nat} (hg : Here P w K mg base N_weights_of (defScope s_weights_of) k true g) (d : GDef P w K mg base "things_of" j S) (hj : j ≤ k := by decide) : Cal g.X "things_of" S := hg.cal hG_weights_of d hj (.head _)
-- obtain ⟨v_hanging, w_hanging, l_hanging, ct⟩ := fx_weights_of T hg
abbrev G_is_hanging : List Str := ["is_shaped", "MOST_WEIGHTS", "things_of", "len", "set"]
theorem hG_is_hanging : okG (defScope s_is_hanging) G_is_hanging = true := by decide +kernel
theorem fx_is_hanging {P : Program} {w : World} {K : PySem.W.Frag} {mg : Str → Option Value} {base : Heap} {k : Nat} {g : G} (T : Txt K mg) (hg : Here P w K mg base N_is_hanging (defScope s_is_hanging) k true g) :
    SlotV g.X "thing" 0 ∧ SlotV g.X "names" 1 ∧ SlotW g.X "thing" 0 ∧ SlotW g.X "names" 1 ∧ Lcl g.X "thing" ∧ Lcl g.X "names" ∧ Glo g.X "MOST_WEIGHTS" (.int 8) ∧ Blt g.X "len" (.builtin "len") ∧ Blt g.X "set" (.type "set") ∧ Ct g.X k := by
  have hv : okV N_is_hanging (defScope s_is_hanging) [("thing", 0), ("names", 1)] = true := by decide +kernel
  have hw : okW N_is_hanging (defScope s_is_hanging) [("thing", 0), ("names", 1)] = true := by decide +kernel
  have hl : (["thing", "names"] : List Str).all (fun x => match (defScope s_is_hanging).names.lookup x with | some .local => true | _ => false) = true := by decide +kernel
  have hG := hG_is_hanging
  exact ⟨hg.v hv (.head _),
    hg.v hv (.tail _ (.head _)),
    hg.s hw (.head _),
    hg.s hw (.tail _ (.head _)),
    hg.l hl (.head _),
    hg.l hl (.tail _ (.head _)),
    hg.glo hG T.n_MOST_WEIGHTS (.tail _ (.head _)),
    hg.blt hG T.b_len (by decide +kernel) (.tail _ (.tail _ (.tail _ (.head _)))),
    hg.blt hG T.b_set (by decide +kernel) (.tail _ (.tail _ (.tail _ (.tail _ (.head _))))),
    hg.ct⟩
theorem ca_is_hanging_is_shaped {P : Program} {w : World} {K : PySem.W.Frag} {mg : Str → Option Value} {base : Heap} {k : Nat} {g : G} {S : FSp} {j : Nat} (hg : Here P w K mg base N_is_hanging (defScope s_is_hanging) k true g) (d : GDef P w K mg base "is_shaped" j S) (hj : j ≤ k := by decide) : Cal g.X "is_shaped" S := hg.cal hG_is_hanging d hj (.head _)
theorem ca_is_hanging_things_of {P : Program} {w : World} {K : PySem.W.Frag} {mg : Str → Option Value} {base : Heap} {k : Nat} {g : G} {S : FSp} {j : Nat} (hg : Here P w K mg base N_is_hanging (defScope s_is_hanging) k true g) (d : GDef P w K mg base "things_of" j S) (hj : j ≤ k := by decide) : Cal g.X "things_of" S := hg.cal hG_is_hanging d hj (.tail _ (.tail _ (.head _)))
-- obtain ⟨v_thing, v_names, w_thing, w_names, l_thing, l_names, n_MOST_WEIGHTS, b_len, b_set, ct⟩ := fx_is_hanging T hg
abbrev G_need_hanging : List Str := ["is_hanging", "NoHanging"]
theorem hG_need_hanging : okG (defScope s_need_hanging) G_need_hanging = true := by decide +kernel
theorem fx_need_hanging {P : Program} {w : World} {K : PySem.W.Frag} {mg : Str → Option Value} {base : Heap} {k : Nat} {g : G} (T : Txt K mg) (hg : Here P w K mg base N_need_hanging (defScope s_need_hanging) k true g) :
    SlotV g.X "hanging" 0 ∧ SlotW g.X "hanging" 0 ∧ Lcl g.X "hanging" ∧ Ct g.X k := by
  have hv : okV N_need_hanging (defScope s_need_hanging) [("hanging", 0)] = true := by decide +kernel
  have hw : okW N_need_hanging (defScope s_need_hanging) [("hanging", 0)] = true := by decide +kernel
  have hl : (["hanging"] : List Str).all (fun x => match (defScope s_need_hanging).names.lookup x with | some .local => true | _ => false) = true := by decide +kernel
  have hG := hG_need_hanging
  exact ⟨hg.v hv (.head _),
    hg.s hw (.head _),
    hg.l hl (.head _),
    hg.ct⟩
theorem ca_need_hanging_is_hanging {P : Program} {w : World} {K : PySem.W.Frag} {mg : Str → Option Value} {base : Heap} {k : Nat} {g : G} {S : FSp} {j : Nat} (hg : Here P w K mg base N_need_hanging (defScope s_need_hanging) k true g) (d : GDef P w K mg base "is_hanging" j S) (hj : j ≤ k := by decide) : Cal g.X "is_hanging" S := hg.cal hG_need_hanging d hj (.head _)
-- obtain ⟨v_hanging, w_hanging, l_hanging, ct⟩ := fx_need_hanging T hg
abbrev G_names_of : List Str := ["need_hanging", "sorted", "things_of"]
theorem hG_names_of : okG (defScope s_names_of) G_names_of = true := by decide +kernel
theorem fx_names_of {P : Program} {w : World} {K : PySem.W.Frag} {mg : Str → Option Value} {base : Heap} {k : Nat} {g : G} (T : Txt K mg) (hg : Here P w K mg base N_names_of (defScope s_names_of) k true g) :
    SlotV g.X "hanging" 0 ∧ SlotW g.X "hanging" 0 ∧ Lcl g.X "hanging" ∧ Blt g.X "sorted" (.builtin "sorted") ∧ Ct g.X k := by
  have hv : okV N_names_of (defScope s_names_of) [("hanging", 0)] = true := by decide +kernel
  have hw : okW N_names_of (defScope s_names_of) [("hanging", 0)] = true := by decide +kernel
  have hl : (["hanging"] : List Str).all (fun x => match (defScope s_names_of).names.lookup x with | some .local => true | _ => false) = true := by decide +kernel
  have hG := hG_names_of
  exact ⟨hg.v hv (.head _),
    hg.s hw (.head _),
    hg.l hl (.head _),
    hg.blt hG T.b_sorted (by decide +kernel) (.tail _ (.head _)),
    hg.ct⟩
theorem ca_names_of_need_hanging {P : Program} {w : World} {K : PySem.W.Frag} {mg : Str → Option Value} {base : Heap} {k : Nat} {g : G} {S : FSp} {j : Nat} (hg : Here P w K mg base N_names_of (defScope s_names_of) k true g) (d : GDef P w K mg base "need_hanging" j S) (hj : j ≤ k := by decide) : Cal g.X "need_hanging" S := hg.cal hG_names_of d hj (.head _)
theorem ca_names_of_things_of {P : Program} {w : World} {K : PySem.W.Frag} {mg : Str → Option Value} {base : Heap} {k : Nat} {g : G} {S : FSp} {j : Nat} (hg : Here P w K mg base N_names_of (defScope s_names_of) k true g) (d : GDef P w K mg base "things_of" j S) (hj : j ≤ k := by decide) : Cal g.X "things_of" S := hg.cal hG_names_of d hj (.tail _ (.tail _ (.head _)))
-- obtain ⟨v_hanging, w_hanging, l_hanging, b_sorted, ct⟩ := fx_names_of T hg
abbrev G_both_felt : List Str := ["plus", "shared", "times"]
theorem hG_both_felt : okG (defScope s_both_felt) G_both_felt = true := by decide +kernel
theorem fx_both_felt {P : Program} {w : World} {K : PySem.W.Frag} {mg : Str → Option Value} {base : Heap} {k : Nat} {g : G} (T : Txt K mg) (hg : Here P w K mg base N_both_felt (defScope s_both_felt) k true g) :
    SlotV g.X "own" 0 ∧ SlotV g.X "one" 1 ∧ SlotV g.X "other" 2 ∧ SlotW g.X "own" 0 ∧ SlotW g.X "one" 1 ∧ SlotW g.X "other" 2 ∧ Lcl g.X "own" ∧ Lcl g.X "one" ∧ Lcl g.X "other" ∧ Ct g.X k := by
  have hv : okV N_both_felt (defScope s_both_felt) [("own", 0), ("one", 1), ("other", 2)] = true := by decide +kernel
  have hw : okW N_both_felt (defScope s_both_felt) [("own", 0), ("one", 1), ("other", 2)] = true := by decide +kernel
  have hl : (["own", "one", "other"] : List Str).all (fun x => match (defScope s_both_felt).names.lookup x with | some .local => true | _ => false) = true := by decide +kernel
  have hG := hG_both_felt
  exact ⟨hg.v hv (.head _),
    hg.v hv (.tail _ (.head _)),
    hg.v hv (.tail _ (.tail _ (.head _))),
    hg.s hw (.head _),
    hg.s hw (.tail _ (.head _)),
    hg.s hw (.tail _ (.tail _ (.head _))),
    hg.l hl (.head _),
    hg.l hl (.tail _ (.head _)),
    hg.l hl (.tail _ (.tail _ (.head _))),
    hg.ct⟩
theorem ca_both_felt_plus {P : Program} {w : World} {K : PySem.W.Frag} {mg : Str → Option Value} {base : Heap} {k : Nat} {g : G} {S : FSp} {j : Nat} (hg : Here P w K mg base N_both_felt (defScope s_both_felt) k true g) (d : GDef P w K mg base "plus" j S) (hj : j ≤ k := by decide) : Cal g.X "plus" S := hg.cal hG_both_felt d hj (.head _)
theorem ca_both_felt_shared {P : Program} {w : World} {K : PySem.W.Frag} {mg : Str → Option Value} {base : Heap} {k : Nat} {g : G} {S : FSp} {j : Nat} (hg : Here P w K mg base N_both_felt (defScope s_both_felt) k true g) (d : GDef P w K mg base "shared" j S) (hj : j ≤ k := by decide) : Cal g.X "shared" S := hg.cal hG_both_felt d hj (.tail _ (.head _))
theorem ca_both_felt_times {P : Program} {w : World} {K : PySem.W.Frag} {mg : Str → Option Value} {base : Heap} {k : Nat} {g : G} {S : FSp} {j : Nat} (hg : Here P w K mg base N_both_felt (defScope s_both_felt) k true g) (d : GDef P w K mg base "times" j S) (hj : j ≤ k := by decide) : Cal g.X "times" S := hg.cal hG_both_felt d hj (.tail _ (.tail _ (.head _)))
-- obtain ⟨v_own, v_one, v_other, w_own, w_one, w_other, l_own, l_one, l_other, ct⟩ := fx_both_felt T hg
abbrev G_felt_of : List Str := ["len", "both_felt", "felt_of"]
theorem hG_felt_of : okG (defScope s_felt_of) G_felt_of = true := by decide +kernel
theorem fx_felt_of {P : Program} {w : World} {K : PySem.W.Frag} {mg : Str → Option Value} {base : Heap} {k : Nat} {g : G} (T : Txt K mg) (hg : Here P w K mg base N_felt_of (defScope s_felt_of) k true g) :
    SlotV g.X "hanging" 0 ∧ SlotV g.X "known" 1 ∧ SlotW g.X "hanging" 0 ∧ SlotW g.X "known" 1 ∧ Lcl g.X "hanging" ∧ Lcl g.X "known" ∧ Blt g.X "len" (.builtin "len") ∧ Ct g.X k := by
  have hv : okV N_felt_of (defScope s_felt_of) [("hanging", 0), ("known", 1)] = true := by decide +kernel
  have hw : okW N_felt_of (defScope s_felt_of) [("hanging", 0), ("known", 1)] = true := by decide +kernel
  have hl : (["hanging", "known"] : List Str).all (fun x => match (defScope s_felt_of).names.lookup x with | some .local => true | _ => false) = true := by decide +kernel
  have hG := hG_felt_of
  exact ⟨hg.v hv (.head _),
    hg.v hv (.tail _ (.head _)),
    hg.s hw (.head _),
    hg.s hw (.tail _ (.head _)),
    hg.l hl (.head _),
    hg.l hl (.tail _ (.head _)),
    hg.blt hG T.b_len (by decide +kernel) (.head _),
    hg.ct⟩
theorem ca_felt_of_both_felt {P : Program} {w : World} {K : PySem.W.Frag} {mg : Str → Option Value} {base : Heap} {k : Nat} {g : G} {S : FSp} {j : Nat} (hg : Here P w K mg base N_felt_of (defScope s_felt_of) k true g) (d : GDef P w K mg base "both_felt" j S) (hj : j ≤ k := by decide) : Cal g.X "both_felt" S := hg.cal hG_felt_of d hj (.tail _ (.head _))
theorem ca_felt_of_felt_of {P : Program} {w : World} {K : PySem.W.Frag} {mg : Str → Option Value} {base : Heap} {k : Nat} {g : G} {S : FSp} {j : Nat} (hg : Here P w K mg base N_felt_of (defScope s_felt_of) k true g) (d : GDef P w K mg base "felt_of" j S) (hj : j ≤ k := by decide) : Cal g.X "felt_of" S := hg.cal hG_felt_of d hj (.tail _ (.tail _ (.head _)))
-- obtain ⟨v_hanging, v_known, w_hanging, w_known, l_hanging, l_known, b_len, ct⟩ := fx_felt_of T hg
abbrev G_runs : List Str := ["len", "felt_of", "times", "shared", "plus", "minus", "ONE", "runs"]
theorem hG_runs : okG (defScope s_runs) G_runs = true := by decide +kernel
theorem fx_runs {P : Program} {w : World} {K : PySem.W.Frag} {mg : Str → Option Value} {base : Heap} {k : Nat} {g : G} (T : Txt K mg) (hg : Here P w K mg base N_runs (defScope s_runs) k true g) :
    SlotV g.X "hanging" 0 ∧ SlotV g.X "known" 1 ∧ SlotV g.X "speed" 2 ∧ SlotV g.X "pull" 3 ∧ SlotV g.X "found" 4 ∧ SlotV g.X "one" 5 ∧ SlotV g.X "other" 6 ∧ SlotV g.X "held_so" 7 ∧ SlotV g.X "end" 8 ∧ SlotV g.X "weight" 9 ∧ SlotW g.X "hanging" 0 ∧ SlotW g.X "known" 1 ∧ SlotW g.X "speed" 2 ∧ SlotW g.X "pull" 3 ∧ SlotW g.X "found" 4 ∧ SlotW g.X "one" 5 ∧ SlotW g.X "other" 6 ∧ SlotW g.X "held_so" 7 ∧ SlotW g.X "end" 8 ∧ SlotW g.X "weight" 9 ∧ Lcl g.X "hanging" ∧ Lcl g.X "known" ∧ Lcl g.X "speed" ∧ Lcl g.X "pull" ∧ Lcl g.X "found" ∧ Lcl g.X "one" ∧ Lcl g.X "other" ∧ Lcl g.X "held_so" ∧ Lcl g.X "end" ∧ Lcl g.X "weight" ∧ Blt g.X "len" (.builtin "len") ∧ Glo g.X "ONE" (.tup [.int 1, .int 1]) ∧ Ct g.X k := by
  have hv : okV N_runs (defScope s_runs) [("hanging", 0), ("known", 1), ("speed", 2), ("pull", 3), ("found", 4), ("one", 5), ("other", 6), ("held_so", 7), ("end", 8), ("weight", 9)] = true := by decide +kernel
  have hw : okW N_runs (defScope s_runs) [("hanging", 0), ("known", 1), ("speed", 2), ("pull", 3), ("found", 4), ("one", 5), ("other", 6), ("held_so", 7), ("end", 8), ("weight", 9)] = true := by decide +kernel
  have hl : (["hanging", "known", "speed", "pull", "found", "one", "other", "held_so", "end", "weight"] : List Str).all (fun x => match (defScope s_runs).names.lookup x with | some .local => true | _ => false) = true := by decide +kernel
  have hG := hG_runs
  exact ⟨hg.v hv (.head _),
    hg.v hv (.tail _ (.head _)),
    hg.v hv (.tail _ (.tail _ (.head _))),
    hg.v hv (.tail _ (.tail _ (.tail _ (.head _)))),
    hg.v hv (.tail _ (.tail _ (.tail _ (.tail _ (.head _))))),
    hg.v hv (.tail _ (.tail _ (.tail _ (.tail _ (.tail _ (.head _)))))),
    hg.v hv (.tail _ (.tail _ (.tail _ (.tail _ (.tail _ (.tail _ (.head _))))))),
    hg.v hv (.tail _ (.tail _ (.tail _ (.tail _ (.tail _ (.tail _ (.tail _ (.head _)))))))),
    hg.v hv (.tail _ (.tail _ (.tail _ (.tail _ (.tail _ (.tail _ (.tail _ (.tail _ (.head _))))))))),
    hg.v hv (.tail _ (.tail _ (.tail _ (.tail _ (.tail _ (.tail _ (.tail _ (.tail _ (.tail _ (.head _)))))))))),
    hg.s hw (.head _),
    hg.s hw (.tail _ (.head _)),
    hg.s hw (.tail _ (.tail _ (.head _))),
    hg.s hw (.tail _ (.tail _ (.tail _ (.head _)))),
    hg.s hw (.tail _ (.tail _ (.tail _ (.tail _ (.head _))))),
    hg.s hw (.tail _ (.tail _ (.tail _ (.tail _ (.tail _ (.head _)))))),
    hg.s hw (.tail _ (.tail _ (.tail _ (.tail _ (.tail _ (.tail _ (.head _))))))),
    hg.s hw (.tail _ (.tail _ (.tail _ (.tail _ (.tail _ (.tail _ (.tail _ (.head _)))))))),
    hg.s hw (.tail _ (.tail _ (.tail _ (.tail _ (.tail _ (.tail _ (.tail _ (.tail _ (.head _))))))))),
    hg.s hw (.tail _ (.tail _ (.tail _ (.tail _ (.tail _ (.tail _ (.tail _ (.tail _ (.tail _ (.head _)))))))))),
    hg.l hl (.head _),
    hg.l hl (.tail _ (.head _)),
    hg.l hl (.tail _ (.tail _ (.head _))),
    hg.l hl (.tail _ (.tail _ (.tail _ (.head _)))),
    hg.l hl (.tail _ (.tail _ (.tail _ (.tail _ (.head _))))),
    hg.l hl (.tail _ (.tail _ (.tail _ (.tail _ (.tail _ (.head _)))))),
    hg.l hl (.tail _ (.tail _ (.tail _ (.tail _ (.tail _ (.tail _ (.head _))))))),
    hg.l hl (.tail _ (.tail _ (.tail _ (.tail _ (.tail _ (.tail _ (.tail _ (.head _)))))))),
    hg.l hl (.tail _ (.tail _ (.tail _ (.tail _ (.tail _ (.tail _ (.tail _ (.tail _ (.head _))))))))),
    hg.l hl (.tail _ (.tail _ (.tail _ (.tail _ (.tail _ (.tail _ (.tail _ (.tail _ (.tail _ (.head _)))))))))),
    hg.blt hG T.b_len (by decide +kernel) (.head _),
    hg.glo hG T.n_ONE (.tail _ (.tail _ (.tail _ (.tail _ (.tail _ (.tail _ (.head _))))))),
    hg.ct⟩
theorem ca_runs_felt_of {P : Program} {w : World} {K : PySem.W.Frag} {mg : Str → Option Value} {base : Heap} {k : Nat} {g : G} {S : FSp} {j : Nat} (hg : Here P w K mg base N_runs (defScope s_runs) k true g) (d : GDef P w K mg base "felt_of" j S) (hj : j ≤ k := by decide) : Cal g.X "felt_of" S := hg.cal hG_runs d hj (.tail _ (.head _))
theorem ca_runs_times {P : Program} {w : World} {K : PySem.W.Frag} {mg : Str → Option Value} {base : Heap} {k : Nat} {g : G} {S : FSp} {j : Nat} (hg : Here P w K mg base N_runs (defScope s_runs) k true g) (d : GDef P w K mg base "times" j S) (hj : j ≤ k := by decide) : Cal g.X "times" S := hg.cal hG_runs d hj (.tail _ (.tail _ (.head _)))
theorem ca_runs_shared {P : Program} {w : World} {K : PySem.W.Frag} {mg : Str → Option Value} {base : Heap} {k : Nat} {g : G} {S : FSp} {j : Nat} (hg : Here P w K mg base N_runs (defScope s_runs) k true g) (d : GDef P w K mg base "shared" j S) (hj : j ≤ k := by decide) : Cal g.X "shared" S := hg.cal hG_runs d hj (.tail _ (.tail _ (.tail _ (.head _))))
theorem ca_runs_plus {P : Program} {w : World} {K : PySem.W.Frag} {mg : Str → Option Value} {base : Heap} {k : Nat} {g : G} {S : FSp} {j : Nat} (hg : Here P w K mg base N_runs (defScope s_runs) k true g) (d : GDef P w K mg base "plus" j S) (hj : j ≤ k := by decide) : Cal g.X "plus" S := hg.cal hG_runs d hj (.tail _ (.tail _ (.tail _ (.tail _ (.head _)))))
theorem ca_runs_minus {P : Program} {w : World} {K : PySem.W.Frag} {mg : Str → Option Value} {base : Heap} {k : Nat} {g : G} {S : FSp} {j : Nat} (hg : Here P w K mg base N_runs (defScope s_runs) k true g) (d : GDef P w K mg base "minus" j S) (hj : j ≤ k := by decide) : Cal g.X "minus" S := hg.cal hG_runs d hj (.tail _ (.tail _ (.tail _ (.tail _ (.tail _ (.head _))))))
theorem ca_runs_runs {P : Program} {w : World} {K : PySem.W.Frag} {mg : Str → Option Value} {base : Heap} {k : Nat} {g : G} {S : FSp} {j : Nat} (hg : Here P w K mg base N_runs (defScope s_runs) k true g) (d : GDef P w K mg base "runs" j S) (hj : j ≤ k := by decide) : Cal g.X "runs" S := hg.cal hG_runs d hj (.tail _ (.tail _ (.tail _ (.tail _ (.tail _ (.tail _ (.tail _ (.head _))))))))
-- obtain ⟨v_hanging, v_known, v_speed, v_pull, v_found, v_one, v_other, v_held_so, v_end, v_weight, w_hanging, w_known, w_speed, w_pull, w_found, w_one, w_other, w_held_so, w_end, w_weight, l_hanging, l_known, l_speed, l_pull, l_found, l_one, l_other, l_held_so, l_end, l_weight, b_len, n_ONE, ct⟩ := fx_runs T hg
abbrev G_all_runs : List Str := ["sorted", "runs", "NOUGHT", "felt_of"]
theorem hG_all_runs : okG (defScope s_all_runs) G_all_runs = true := by decide +kernel
theorem fx_all_runs {P : Program} {w : World} {K : PySem.W.Frag} {mg : Str → Option Value} {base : Heap} {k : Nat} {g : G} (T : Txt K mg) (hg : Here P w K mg base N_all_runs (defScope s_all_runs) k true g) :
    SlotV g.X "hanging" 0 ∧ SlotV g.X "known" 1 ∧ SlotW g.X "hanging" 0 ∧ SlotW g.X "known" 1 ∧ Lcl g.X "hanging" ∧ Lcl g.X "known" ∧ Blt g.X "sorted" (.builtin "sorted") ∧ Glo g.X "NOUGHT" (.tup [.int 0, .int 1]) ∧ Ct g.X k := by
  have hv : okV N_all_runs (defScope s_all_runs) [("hanging", 0), ("known", 1)] = true := by decide +kernel
  have hw : okW N_all_runs (defScope s_all_runs) [("hanging", 0), ("known", 1)] = true := by decide +kernel
  have hl : (["hanging", "known"] : List Str).all (fun x => match (defScope s_all_runs).names.lookup x with | some .local => true | _ => false) = true := by decide +kernel
  have hG := hG_all_runs
  exact ⟨hg.v hv (.head _),
    hg.v hv (.tail _ (.head _)),
    hg.s hw (.head _),
    hg.s hw (.tail _ (.head _)),
    hg.l hl (.head _),
    hg.l hl (.tail _ (.head _)),
    hg.blt hG T.b_sorted (by decide +kernel) (.head _),
    hg.glo hG T.n_NOUGHT (.tail _ (.tail _ (.head _))),
    hg.ct⟩
theorem ca_all_runs_runs {P : Program} {w : World} {K : PySem.W.Frag} {mg : Str → Option Value} {base : Heap} {k : Nat} {g : G} {S : FSp} {j : Nat} (hg : Here P w K mg base N_all_runs (defScope s_all_runs) k true g) (d : GDef P w K mg base "runs" j S) (hj : j ≤ k := by decide) : Cal g.X "runs" S := hg.cal hG_all_runs d hj (.tail _ (.head _))
theorem ca_all_runs_felt_of {P : Program} {w : World} {K : PySem.W.Frag} {mg : Str → Option Value} {base : Heap} {k : Nat} {g : G} {S : FSp} {j : Nat} (hg : Here P w K mg base N_all_runs (defScope s_all_runs) k true g) (d : GDef P w K mg base "felt_of" j S) (hj : j ≤ k := by decide) : Cal g.X "felt_of" S := hg.cal hG_all_runs d hj (.tail _ (.tail _ (.tail _ (.head _))))
-- obtain ⟨v_hanging, v_known, w_hanging, w_known, l_hanging, l_known, b_sorted, n_NOUGHT, ct⟩ := fx_all_runs T hg
abbrev G_speeds : List Str := ["need_hanging", "all_runs"]
theorem hG_speeds : okG (defScope s_speeds) G_speeds = true := by decide +kernel
theorem fx_speeds {P : Program} {w : World} {K : PySem.W.Frag} {mg : Str → Option Value} {base : Heap} {k : Nat} {g : G} (T : Txt K mg) (hg : Here P w K mg base N_speeds (defScope s_speeds) k true g) :
    SlotV g.X "hanging" 0 ∧ SlotW g.X "hanging" 0 ∧ Lcl g.X "hanging" ∧ Ct g.X k := by
  have hv : okV N_speeds (defScope s_speeds) [("hanging", 0)] = true := by decide +kernel
  have hw : okW N_speeds (defScope s_speeds) [("hanging", 0)] = true := by decide +kernel
  have hl : (["hanging"] : List Str).all (fun x => match (defScope s_speeds).names.lookup x with | some .local => true | _ => false) = true := by decide +kernel
  have hG := hG_speeds
  exact ⟨hg.v hv (.head _),
    hg.s hw (.head _),
    hg.l hl (.head _),
    hg.ct⟩
theorem ca_speeds_need_hanging {P : Program} {w : World} {K : PySem.W.Frag} {mg : Str → Option Value} {base : Heap} {k : Nat} {g : G} {S : FSp} {j : Nat} (hg : Here P w K mg base N_speeds (defScope s_speeds) k true g) (d : GDef P w K mg base "need_hanging" j S) (hj : j ≤ k := by decide) : Cal g.X "need_hanging" S := hg.cal hG_speeds d hj (.head _)
theorem ca_speeds_all_runs {P : Program} {w : World} {K : PySem.W.Frag} {mg : Str → Option Value} {base : Heap} {k : Nat} {g : G} {S : FSp} {j : Nat} (hg : Here P w K mg base N_speeds (defScope s_speeds) k true g) (d : GDef P w K mg base "all_runs" j S) (hj : j ≤ k := by decide) : Cal g.X "all_runs" S := hg.cal hG_speeds d hj (.tail _ (.head _))
-- obtain ⟨v_hanging, w_hanging, l_hanging, ct⟩ := fx_speeds T hg
abbrev G_held : List Str := ["need_hanging", "all_runs"]
theorem hG_held : okG (defScope s_held) G_held = true := by decide +kernel
theorem fx_held {P : Program} {w : World} {K : PySem.W.Frag} {mg : Str → Option Value} {base : Heap} {k : Nat} {g : G} (T : Txt K mg) (hg : Here P w K mg base N_held (defScope s_held) k true g) :
    SlotV g.X "hanging" 0 ∧ SlotW g.X "hanging" 0 ∧ Lcl g.X "hanging" ∧ Ct g.X k := by
  have hv : okV N_held (defScope s_held) [("hanging", 0)] = true := by decide +kernel
  have hw : okW N_held (defScope s_held) [("hanging", 0)] = true := by decide +kernel
  have hl : (["hanging"] : List Str).all (fun x => match (defScope s_held).names.lookup x with | some .local => true | _ => false) = true := by decide +kernel
  have hG := hG_held
  exact ⟨hg.v hv (.head _),
    hg.s hw (.head _),
    hg.l hl (.head _),
    hg.ct⟩
theorem ca_held_need_hanging {P : Program} {w : World} {K : PySem.W.Frag} {mg : Str → Option Value} {base : Heap} {k : Nat} {g : G} {S : FSp} {j : Nat} (hg : Here P w K mg base N_held (defScope s_held) k true g) (d : GDef P w K mg base "need_hanging" j S) (hj : j ≤ k := by decide) : Cal g.X "need_hanging" S := hg.cal hG_held d hj (.head _)
theorem ca_held_all_runs {P : Program} {w : World} {K : PySem.W.Frag} {mg : Str → Option Value} {base : Heap} {k : Nat} {g : G} {S : FSp} {j : Nat} (hg : Here P w K mg base N_held (defScope s_held) k true g) (d : GDef P w K mg base "all_runs" j S) (hj : j ≤ k := by decide) : Cal g.X "all_runs" S := hg.cal hG_held d hj (.tail _ (.head _))
-- obtain ⟨v_hanging, w_hanging, l_hanging, ct⟩ := fx_held T hg
abbrev G_is_still : List Str := ["all", "all_runs"]
theorem hG_is_still : okG (defScope s_is_still) G_is_still = true := by decide +kernel
theorem fx_is_still {P : Program} {w : World} {K : PySem.W.Frag} {mg : Str → Option Value} {base : Heap} {k : Nat} {g : G} (T : Txt K mg) (hg : Here P w K mg base N_is_still (defScope s_is_still) k true g) :
    SlotV g.X "hanging" 0 ∧ SlotW g.X "hanging" 0 ∧ Lcl g.X "hanging" ∧ Blt g.X "all" (.builtin "all") ∧ Ct g.X k := by
  have hv : okV N_is_still (defScope s_is_still) [("hanging", 0)] = true := by decide +kernel
  have hw : okW N_is_still (defScope s_is_still) [("hanging", 0)] = true := by decide +kernel
  have hl : (["hanging"] : List Str).all (fun x => match (defScope s_is_still).names.lookup x with | some .local => true | _ => false) = true := by decide +kernel
  have hG := hG_is_still
  exact ⟨hg.v hv (.head _),
    hg.s hw (.head _),
    hg.l hl (.head _),
    hg.blt hG T.b_all (by decide +kernel) (.head _),
    hg.ct⟩
theorem ca_is_still_all_runs {P : Program} {w : World} {K : PySem.W.Frag} {mg : Str → Option Value} {base : Heap} {k : Nat} {g : G} {S : FSp} {j : Nat} (hg : Here P w K mg base N_is_still (defScope s_is_still) k true g) (d : GDef P w K mg base "all_runs" j S) (hj : j ≤ k := by decide) : Cal g.X "all_runs" S := hg.cal hG_is_still d hj (.tail _ (.head _))
-- obtain ⟨v_hanging, w_hanging, l_hanging, b_all, ct⟩ := fx_is_still T hg
abbrev G_rests : List Str := ["need_hanging", "is_still"]
theorem hG_rests : okG (defScope s_rests) G_rests = true := by decide +kernel
theorem fx_rests {P : Program} {w : World} {K : PySem.W.Frag} {mg : Str → Option Value} {base : Heap} {k : Nat} {g : G} (T : Txt K mg) (hg : Here P w K mg base N_rests (defScope s_rests) k true g) :
    SlotV g.X "hanging" 0 ∧ SlotW g.X "hanging" 0 ∧ Lcl g.X "hanging" ∧ Ct g.X k := by
  have hv : okV N_rests (defScope s_rests) [("hanging", 0)] = true := by decide +kernel
  have hw : okW N_rests (defScope s_rests) [("hanging", 0)] = true := by decide +kernel
  have hl : (["hanging"] : List Str).all (fun x => match (defScope s_rests).names.lookup x with | some .local => true | _ => false) = true := by decide +kernel
  have hG := hG_rests
  exact ⟨hg.v hv (.head _),
    hg.s hw (.head _),
    hg.l hl (.head _),
    hg.ct⟩
theorem ca_rests_need_hanging {P : Program} {w : World} {K : PySem.W.Frag} {mg : Str → Option Value} {base : Heap} {k : Nat} {g : G} {S : FSp} {j : Nat} (hg : Here P w K mg base N_rests (defScope s_rests) k true g) (d : GDef P w K mg base "need_hanging" j S) (hj : j ≤ k := by decide) : Cal g.X "need_hanging" S := hg.cal hG_rests d hj (.head _)
theorem ca_rests_is_still {P : Program} {w : World} {K : PySem.W.Frag} {mg : Str → Option Value} {base : Heap} {k : Nat} {g : G} {S : FSp} {j : Nat} (hg : Here P w K mg base N_rests (defScope s_rests) k true g) (d : GDef P w K mg base "is_still" j S) (hj : j ≤ k := by decide) : Cal g.X "is_still" S := hg.cal hG_rests d hj (.tail _ (.head _))
-- obtain ⟨v_hanging, w_hanging, l_hanging, ct⟩ := fx_rests T hg
abbrev G__law_well : List Str := ["len"]
theorem hG__law_well : okG (defScope s__law_well) G__law_well = true := by decide +kernel
theorem fx__law_well {P : Program} {w : World} {K : PySem.W.Frag} {mg : Str → Option Value} {base : Heap} {k : Nat} {g : G} (T : Txt K mg) (hg : Here P w K mg base N__law_well (defScope s__law_well) k true g) :
    SlotV g.X "script" 0 ∧ SlotV g.X "k" 1 ∧ SlotV g.X "cell" 2 ∧ SlotV g.X "primes" 3 ∧ SlotV g.X "seed" 4 ∧ SlotW g.X "script" 0 ∧ SlotW g.X "k" 1 ∧ SlotW g.X "cell" 2 ∧ SlotW g.X "primes" 3 ∧ SlotW g.X "seed" 4 ∧ Lcl g.X "script" ∧ Lcl g.X "k" ∧ Lcl g.X "cell" ∧ Lcl g.X "primes" ∧ Lcl g.X "seed" ∧ Blt g.X "len" (.builtin "len") ∧ Ct g.X k := by
  have hv : okV N__law_well (defScope s__law_well) [("script", 0), ("k", 1), ("cell", 2), ("primes", 3), ("seed", 4)] = true := by decide +kernel
  have hw : okW N__law_well (defScope s__law_well) [("script", 0), ("k", 1), ("cell", 2), ("primes", 3), ("seed", 4)] = true := by decide +kernel
  have hl : (["script", "k", "cell", "primes", "seed"] : List Str).all (fun x => match (defScope s__law_well).names.lookup x with | some .local => true | _ => false) = true := by decide +kernel
  have hG := hG__law_well
  exact ⟨hg.v hv (.head _),
    hg.v hv (.tail _ (.head _)),
    hg.v hv (.tail _ (.tail _ (.head _))),
    hg.v hv (.tail _ (.tail _ (.tail _ (.head _)))),
    hg.v hv (.tail _ (.tail _ (.tail _ (.tail _ (.head _))))),
    hg.s hw (.head _),
    hg.s hw (.tail _ (.head _)),
    hg.s hw (.tail _ (.tail _ (.head _))),
    hg.s hw (.tail _ (.tail _ (.tail _ (.head _)))),
    hg.s hw (.tail _ (.tail _ (.tail _ (.tail _ (.head _))))),
    hg.l hl (.head _),
    hg.l hl (.tail _ (.head _)),
    hg.l hl (.tail _ (.tail _ (.head _))),
    hg.l hl (.tail _ (.tail _ (.tail _ (.head _)))),
    hg.l hl (.tail _ (.tail _ (.tail _ (.tail _ (.head _))))),
    hg.blt hG T.b_len (by decide +kernel) (.head _),
    hg.ct⟩
-- obtain ⟨v_script, v_k, v_cell, v_primes, v_seed, w_script, w_k, w_cell, w_primes, w_seed, l_script, l_k, l_cell, l_primes, l_seed, b_len, ct⟩ := fx__law_well T hg
abbrev G__law_take : List Str := []
theorem hG__law_take : okG (defScope s__law_take) G__law_take = true := by decide +kernel
theorem fx__law_take {P : Program} {w : World} {K : PySem.W.Frag} {mg : Str → Option Value} {base : Heap} {k : Nat} {g : G} (T : Txt K mg) (hg : Here P w K mg base N__law_take (defScope s__law_take) k true g) :
    SlotV g.X "well" 0 ∧ SlotV g.X "many" 1 ∧ SlotV g.X "drew" 2 ∧ SlotW g.X "well" 0 ∧ SlotW g.X "many" 1 ∧ SlotW g.X "drew" 2 ∧ Lcl g.X "well" ∧ Lcl g.X "many" ∧ Lcl g.X "drew" ∧ Ct g.X k := by
  have hv : okV N__law_take (defScope s__law_take) [("well", 0), ("many", 1), ("drew", 2)] = true := by decide +kernel
  have hw : okW N__law_take (defScope s__law_take) [("well", 0), ("many", 1), ("drew", 2)] = true := by decide +kernel
  have hl : (["well", "many", "drew"] : List Str).all (fun x => match (defScope s__law_take).names.lookup x with | some .local => true | _ => false) = true := by decide +kernel
  have hG := hG__law_take
  exact ⟨hg.v hv (.head _),
    hg.v hv (.tail _ (.head _)),
    hg.v hv (.tail _ (.tail _ (.head _))),
    hg.s hw (.head _),
    hg.s hw (.tail _ (.head _)),
    hg.s hw (.tail _ (.tail _ (.head _))),
    hg.l hl (.head _),
    hg.l hl (.tail _ (.head _)),
    hg.l hl (.tail _ (.tail _ (.head _))),
    hg.ct⟩
-- obtain ⟨v_well, v_many, v_drew, w_well, w_many, w_drew, l_well, l_many, l_drew, ct⟩ := fx__law_take T hg
abbrev G__law_says : List Str := ["isinstance", "bool"]
theorem hG__law_says : okG (defScope s__law_says) G__law_says = true := by decide +kernel
theorem fx__law_says {P : Program} {w : World} {K : PySem.W.Frag} {mg : Str → Option Value} {base : Heap} {k : Nat} {g : G} (T : Txt K mg) (hg : Here P w K mg base N__law_says (defScope s__law_says) k true g) :
    SlotV g.X "found" 0 ∧ SlotV g.X "due" 1 ∧ SlotW g.X "found" 0 ∧ SlotW g.X "due" 1 ∧ Lcl g.X "found" ∧ Lcl g.X "due" ∧ Blt g.X "isinstance" (.builtin "isinstance") ∧ Blt g.X "bool" (.type "bool") ∧ Ct g.X k := by
  have hv : okV N__law_says (defScope s__law_says) [("found", 0), ("due", 1)] = true := by decide +kernel
  have hw : okW N__law_says (defScope s__law_says) [("found", 0), ("due", 1)] = true := by decide +kernel
  have hl : (["found", "due"] : List Str).all (fun x => match (defScope s__law_says).names.lookup x with | some .local => true | _ => false) = true := by decide +kernel
  have hG := hG__law_says
  exact ⟨hg.v hv (.head _),
    hg.v hv (.tail _ (.head _)),
    hg.s hw (.head _),
    hg.s hw (.tail _ (.head _)),
    hg.l hl (.head _),
    hg.l hl (.tail _ (.head _)),
    hg.blt hG T.b_isinstance (by decide +kernel) (.head _),
    hg.blt hG T.b_bool (by decide +kernel) (.tail _ (.head _)),
    hg.ct⟩
-- obtain ⟨v_found, v_due, w_found, w_due, l_found, l_due, b_isinstance, b_bool, ct⟩ := fx__law_says T hg
abbrev G__law_frac : List Str := ["abs"]
theorem hG__law_frac : okG (defScope s__law_frac) G__law_frac = true := by decide +kernel
theorem fx__law_frac {P : Program} {w : World} {K : PySem.W.Frag} {mg : Str → Option Value} {base : Heap} {k : Nat} {g : G} (T : Txt K mg) (hg : Here P w K mg base N__law_frac (defScope s__law_frac) k true g) :
    SlotV g.X "top" 0 ∧ SlotV g.X "bottom" 1 ∧ SlotV g.X "one" 2 ∧ SlotV g.X "other" 3 ∧ SlotW g.X "top" 0 ∧ SlotW g.X "bottom" 1 ∧ SlotW g.X "one" 2 ∧ SlotW g.X "other" 3 ∧ Lcl g.X "top" ∧ Lcl g.X "bottom" ∧ Lcl g.X "one" ∧ Lcl g.X "other" ∧ Blt g.X "abs" (.builtin "abs") ∧ Ct g.X k := by
  have hv : okV N__law_frac (defScope s__law_frac) [("top", 0), ("bottom", 1), ("one", 2), ("other", 3)] = true := by decide +kernel
  have hw : okW N__law_frac (defScope s__law_frac) [("top", 0), ("bottom", 1), ("one", 2), ("other", 3)] = true := by decide +kernel
  have hl : (["top", "bottom", "one", "other"] : List Str).all (fun x => match (defScope s__law_frac).names.lookup x with | some .local => true | _ => false) = true := by decide +kernel
  have hG := hG__law_frac
  exact ⟨hg.v hv (.head _),
    hg.v hv (.tail _ (.head _)),
    hg.v hv (.tail _ (.tail _ (.head _))),
    hg.v hv (.tail _ (.tail _ (.tail _ (.head _)))),
    hg.s hw (.head _),
    hg.s hw (.tail _ (.head _)),
    hg.s hw (.tail _ (.tail _ (.head _))),
    hg.s hw (.tail _ (.tail _ (.tail _ (.head _)))),
    hg.l hl (.head _),
    hg.l hl (.tail _ (.head _)),
    hg.l hl (.tail _ (.tail _ (.head _))),
    hg.l hl (.tail _ (.tail _ (.tail _ (.head _)))),
    hg.blt hG T.b_abs (by decide +kernel) (.head _),
    hg.ct⟩
-- obtain ⟨v_top, v_bottom, v_one, v_other, w_top, w_bottom, w_one, w_other, l_top, l_bottom, l_one, l_other, b_abs, ct⟩ := fx__law_frac T hg
abbrev G__law_plus : List Str := ["_law_frac"]
theorem hG__law_plus : okG (defScope s__law_plus) G__law_plus = true := by decide +kernel
theorem fx__law_plus {P : Program} {w : World} {K : PySem.W.Frag} {mg : Str → Option Value} {base : Heap} {k : Nat} {g : G} (T : Txt K mg) (hg : Here P w K mg base N__law_plus (defScope s__law_plus) k true g) :
    SlotV g.X "one" 0 ∧ SlotV g.X "other" 1 ∧ SlotW g.X "one" 0 ∧ SlotW g.X "other" 1 ∧ Lcl g.X "one" ∧ Lcl g.X "other" ∧ Ct g.X k := by
  have hv : okV N__law_plus (defScope s__law_plus) [("one", 0), ("other", 1)] = true := by decide +kernel
  have hw : okW N__law_plus (defScope s__law_plus) [("one", 0), ("other", 1)] = true := by decide +kernel
  have hl : (["one", "other"] : List Str).all (fun x => match (defScope s__law_plus).names.lookup x with | some .local => true | _ => false) = true := by decide +kernel
  have hG := hG__law_plus
  exact ⟨hg.v hv (.head _),
    hg.v hv (.tail _ (.head _)),
    hg.s hw (.head _),
    hg.s hw (.tail _ (.head _)),
    hg.l hl (.head _),
    hg.l hl (.tail _ (.head _)),
    hg.ct⟩
theorem ca__law_plus__law_frac {P : Program} {w : World} {K : PySem.W.Frag} {mg : Str → Option Value} {base : Heap} {k : Nat} {g : G} {S : FSp} {j : Nat} (hg : Here P w K mg base N__law_plus (defScope s__law_plus) k true g) (d : GDef P w K mg base "_law_frac" j S) (hj : j ≤ k := by decide) : Cal g.X "_law_frac" S := hg.cal hG__law_plus d hj (.head _)
-- obtain ⟨v_one, v_other, w_one, w_other, l_one, l_other, ct⟩ := fx__law_plus T hg
abbrev G__law_minus : List Str := ["_law_frac"]
theorem hG__law_minus : okG (defScope s__law_minus) G__law_minus = true := by decide +kernel
theorem fx__law_minus {P : Program} {w : World} {K : PySem.W.Frag} {mg : Str → Option Value} {base : Heap} {k : Nat} {g : G} (T : Txt K mg) (hg : Here P w K mg base N__law_minus (defScope s__law_minus) k true g) :
    SlotV g.X "one" 0 ∧ SlotV g.X "other" 1 ∧ SlotW g.X "one" 0 ∧ SlotW g.X "other" 1 ∧ Lcl g.X "one" ∧ Lcl g.X "other" ∧ Ct g.X k := by
  have hv : okV N__law_minus (defScope s__law_minus) [("one", 0), ("other", 1)] = true := by decide +kernel
  have hw : okW N__law_minus (defScope s__law_minus) [("one", 0), ("other", 1)] = true := by decide +kernel
  have hl : (["one", "other"] : List Str).all (fun x => match (defScope s__law_minus).names.lookup x with | some .local => true | _ => false) = true := by decide +kernel
  have hG := hG__law_minus
  exact ⟨hg.v hv (.head _),
    hg.v hv (.tail _ (.head _)),
    hg.s hw (.head _),
    hg.s hw (.tail _ (.head _)),
    hg.l hl (.head _),
    hg.l hl (.tail _ (.head _)),
    hg.ct⟩
theorem ca__law_minus__law_frac {P : Program} {w : World} {K : PySem.W.Frag} {mg : Str → Option Value} {base : Heap} {k : Nat} {g : G} {S : FSp} {j : Nat} (hg : Here P w K mg base N__law_minus (defScope s__law_minus) k true g) (d : GDef P w K mg base "_law_frac" j S) (hj : j ≤ k := by decide) : Cal g.X "_law_frac" S := hg.cal hG__law_minus d hj (.head _)
-- obtain ⟨v_one, v_other, w_one, w_other, l_one, l_other, ct⟩ := fx__law_minus T hg
abbrev G__law_times : List Str := ["_law_frac"]
theorem hG__law_times : okG (defScope s__law_times) G__law_times = true := by decide +kernel
theorem fx__law_times {P : Program} {w : World} {K : PySem.W.Frag} {mg : Str → Option Value} {base : Heap} {k : Nat} {g : G} (T : Txt K mg) (hg : Here P w K mg base N__law_times (defScope s__law_times) k true g) :
    SlotV g.X "one" 0 ∧ SlotV g.X "other" 1 ∧ SlotW g.X "one" 0 ∧ SlotW g.X "other" 1 ∧ Lcl g.X "one" ∧ Lcl g.X "other" ∧ Ct g.X k := by
  have hv : okV N__law_times (defScope s__law_times) [("one", 0), ("other", 1)] = true := by decide +kernel
  have hw : okW N__law_times (defScope s__law_times) [("one", 0), ("other", 1)] = true := by decide +kernel
  have hl : (["one", "other"] : List Str).all (fun x => match (defScope s__law_times).names.lookup x with | some .local => true | _ => false) = true := by decide +kernel
  have hG := hG__law_times
  exact ⟨hg.v hv (.head _),
    hg.v hv (.tail _ (.head _)),
    hg.s hw (.head _),
    hg.s hw (.tail _ (.head _)),
    hg.l hl (.head _),
    hg.l hl (.tail _ (.head _)),
    hg.ct⟩
theorem ca__law_times__law_frac {P : Program} {w : World} {K : PySem.W.Frag} {mg : Str → Option Value} {base : Heap} {k : Nat} {g : G} {S : FSp} {j : Nat} (hg : Here P w K mg base N__law_times (defScope s__law_times) k true g) (d : GDef P w K mg base "_law_frac" j S) (hj : j ≤ k := by decide) : Cal g.X "_law_frac" S := hg.cal hG__law_times d hj (.head _)
-- obtain ⟨v_one, v_other, w_one, w_other, l_one, l_other, ct⟩ := fx__law_times T hg
abbrev G__law_heavy : List Str := ["_law_take"]
theorem hG__law_heavy : okG (defScope s__law_heavy) G__law_heavy = true := by decide +kernel
theorem fx__law_heavy {P : Program} {w : World} {K : PySem.W.Frag} {mg : Str → Option Value} {base : Heap} {k : Nat} {g : G} (T : Txt K mg) (hg : Here P w K mg base N__law_heavy (defScope s__law_heavy) k true g) :
    SlotV g.X "well" 0 ∧ SlotW g.X "well" 0 ∧ Lcl g.X "well" ∧ Ct g.X k := by
  have hv : okV N__law_heavy (defScope s__law_heavy) [("well", 0)] = true := by decide +kernel
  have hw : okW N__law_heavy (defScope s__law_heavy) [("well", 0)] = true := by decide +kernel
  have hl : (["well"] : List Str).all (fun x => match (defScope s__law_heavy).names.lookup x with | some .local => true | _ => false) = true := by decide +kernel
  have hG := hG__law_heavy
  exact ⟨hg.v hv (.head _),
    hg.s hw (.head _),
    hg.l hl (.head _),
    hg.ct⟩
theorem ca__law_heavy__law_take {P : Program} {w : World} {K : PySem.W.Frag} {mg : Str → Option Value} {base : Heap} {k : Nat} {g : G} {S : FSp} {j : Nat} (hg : Here P w K mg base N__law_heavy (defScope s__law_heavy) k true g) (d : GDef P w K mg base "_law_take" j S) (hj : j ≤ k := by decide) : Cal g.X "_law_take" S := hg.cal hG__law_heavy d hj (.head _)
-- obtain ⟨v_well, w_well, l_well, ct⟩ := fx__law_heavy T hg
abbrev G__law_hung : List Str := ["_law_heavy", "_law_take", "_law_hung"]
theorem hG__law_hung : okG (defScope s__law_hung) G__law_hung = true := by decide +kernel
theorem fx__law_hung {P : Program} {w : World} {K : PySem.W.Frag} {mg : Str → Option Value} {base : Heap} {k : Nat} {g : G} (T : Txt K mg) (hg : Here P w K mg base N__law_hung (defScope s__law_hung) k true g) :
    SlotV g.X "well" 0 ∧ SlotV g.X "many" 1 ∧ SlotV g.X "names" 2 ∧ SlotV g.X "name" 3 ∧ SlotV g.X "part" 4 ∧ SlotV g.X "left" 5 ∧ SlotV g.X "right" 6 ∧ SlotV g.X "own" 7 ∧ SlotW g.X "well" 0 ∧ SlotW g.X "many" 1 ∧ SlotW g.X "names" 2 ∧ SlotW g.X "name" 3 ∧ SlotW g.X "part" 4 ∧ SlotW g.X "left" 5 ∧ SlotW g.X "right" 6 ∧ SlotW g.X "own" 7 ∧ Lcl g.X "well" ∧ Lcl g.X "many" ∧ Lcl g.X "names" ∧ Lcl g.X "name" ∧ Lcl g.X "part" ∧ Lcl g.X "left" ∧ Lcl g.X "right" ∧ Lcl g.X "own" ∧ Ct g.X k := by
  have hv : okV N__law_hung (defScope s__law_hung) [("well", 0), ("many", 1), ("names", 2), ("name", 3), ("part", 4), ("left", 5), ("right", 6), ("own", 7)] = true := by decide +kernel
  have hw : okW N__law_hung (defScope s__law_hung) [("well", 0), ("many", 1), ("names", 2), ("name", 3), ("part", 4), ("left", 5), ("right", 6), ("own", 7)] = true := by decide +kernel
  have hl : (["well", "many", "names", "name", "part", "left", "right", "own"] : List Str).all (fun x => match (defScope s__law_hung).names.lookup x with | some .local => true | _ => false) = true := by decide +kernel
  have hG := hG__law_hung
  exact ⟨hg.v hv (.head _),
    hg.v hv (.tail _ (.head _)),
    hg.v hv (.tail _ (.tail _ (.head _))),
    hg.v hv (.tail _ (.tail _ (.tail _ (.head _)))),
    hg.v hv (.tail _ (.tail _ (.tail _ (.tail _ (.head _))))),
    hg.v hv (.tail _ (.tail _ (.tail _ (.tail _ (.tail _ (.head _)))))),
    hg.v hv (.tail _ (.tail _ (.tail _ (.tail _ (.tail _ (.tail _ (.head _))))))),
    hg.v hv (.tail _ (.tail _ (.tail _ (.tail _ (.tail _ (.tail _ (.tail _ (.head _)))))))),
    hg.s hw (.head _),
    hg.s hw (.tail _ (.head _)),
    hg.s hw (.tail _ (.tail _ (.head _))),
    hg.s hw (.tail _ (.tail _ (.tail _ (.head _)))),
    hg.s hw (.tail _ (.tail _ (.tail _ (.tail _ (.head _))))),
    hg.s hw (.tail _ (.tail _ (.tail _ (.tail _ (.tail _ (.head _)))))),
    hg.s hw (.tail _ (.tail _ (.tail _ (.tail _ (.tail _ (.tail _ (.head _))))))),
    hg.s hw (.tail _ (.tail _ (.tail _ (.tail _ (.tail _ (.tail _ (.tail _ (.head _)))))))),
    hg.l hl (.head _),
    hg.l hl (.tail _ (.head _)),
    hg.l hl (.tail _ (.tail _ (.head _))),
    hg.l hl (.tail _ (.tail _ (.tail _ (.head _)))),
    hg.l hl (.tail _ (.tail _ (.tail _ (.tail _ (.head _))))),
    hg.l hl (.tail _ (.tail _ (.tail _ (.tail _ (.tail _ (.head _)))))),
    hg.l hl (.tail _ (.tail _ (.tail _ (.tail _ (.tail _ (.tail _ (.head _))))))),
    hg.l hl (.tail _ (.tail _ (.tail _ (.tail _ (.tail _ (.tail _ (.tail _ (.head _)))))))),
    hg.ct⟩
theorem ca__law_hung__law_heavy {P : Program} {w : World} {K : PySem.W.Frag} {mg : Str → Option Value} {base : Heap} {k : Nat} {g : G} {S : FSp} {j : Nat} (hg : Here P w K mg base N__law_hung (defScope s__law_hung) k true g) (d : GDef P w K mg base "_law_heavy" j S) (hj : j ≤ k := by decide) : Cal g.X "_law_heavy" S := hg.cal hG__law_hung d hj (.head _)
theorem ca__law_hung__law_take {P : Program} {w : World} {K : PySem.W.Frag} {mg : Str → Option Value} {base : Heap} {k : Nat} {g : G} {S : FSp} {j : Nat} (hg : Here P w K mg base N__law_hung (defScope s__law_hung) k true g) (d : GDef P w K mg base "_law_take" j S) (hj : j ≤ k := by decide) : Cal g.X "_law_take" S := hg.cal hG__law_hung d hj (.tail _ (.head _))
theorem ca__law_hung__law_hung {P : Program} {w : World} {K : PySem.W.Frag} {mg : Str → Option Value} {base : Heap} {k : Nat} {g : G} {S : FSp} {j : Nat} (hg : Here P w K mg base N__law_hung (defScope s__law_hung) k true g) (d : GDef P w K mg base "_law_hung" j S) (hj : j ≤ k := by decide) : Cal g.X "_law_hung" S := hg.cal hG__law_hung d hj (.tail _ (.tail _ (.head _)))
-- obtain ⟨v_well, v_many, v_names, v_name, v_part, v_left, v_right, v_own, w_well, w_many, w_names, w_name, w_part, w_left, w_right, w_own, l_well, l_many, l_names, l_name, l_part, l_left, l_right, l_own, ct⟩ := fx__law_hung T hg
abbrev G__law_hanging : List Str := ["_law_take", "len", "_law_hung"]
theorem hG__law_hanging : okG (defScope s__law_hanging) G__law_hanging = true := by decide +kernel
theorem fx__law_hanging {P : Program} {w : World} {K : PySem.W.Frag} {mg : Str → Option Value} {base : Heap} {k : Nat} {g : G} (T : Txt K mg) (hg : Here P w K mg base N__law_hanging (defScope s__law_hanging) k true g) :
    SlotV g.X "well" 0 ∧ SlotV g.X "top" 1 ∧ SlotV g.X "names" 2 ∧ SlotV g.X "drawn" 3 ∧ SlotW g.X "well" 0 ∧ SlotW g.X "top" 1 ∧ SlotW g.X "names" 2 ∧ SlotW g.X "drawn" 3 ∧ Lcl g.X "well" ∧ Lcl g.X "top" ∧ Lcl g.X "names" ∧ Lcl g.X "drawn" ∧ Blt g.X "len" (.builtin "len") ∧ Ct g.X k := by
  have hv : okV N__law_hanging (defScope s__law_hanging) [("well", 0), ("top", 1), ("names", 2), ("drawn", 3)] = true := by decide +kernel
  have hw : okW N__law_hanging (defScope s__law_hanging) [("well", 0), ("top", 1), ("names", 2), ("drawn", 3)] = true := by decide +kernel
  have hl : (["well", "top", "names", "drawn"] : List Str).all (fun x => match (defScope s__law_hanging).names.lookup x with | some .local => true | _ => false) = true := by decide +kernel
  have hG := hG__law_hanging
  exact ⟨hg.v hv (.head _),
    hg.v hv (.tail _ (.head _)),
    hg.v hv (.tail _ (.tail _ (.head _))),
    hg.v hv (.tail _ (.tail _ (.tail _ (.head _)))),
    hg.s hw (.head _),
    hg.s hw (.tail _ (.head _)),
    hg.s hw (.tail _ (.tail _ (.head _))),
    hg.s hw (.tail _ (.tail _ (.tail _ (.head _)))),
    hg.l hl (.head _),
    hg.l hl (.tail _ (.head _)),
    hg.l hl (.tail _ (.tail _ (.head _))),
    hg.l hl (.tail _ (.tail _ (.tail _ (.head _)))),
    hg.blt hG T.b_len (by decide +kernel) (.tail _ (.head _)),
    hg.ct⟩
theorem ca__law_hanging__law_take {P : Program} {w : World} {K : PySem.W.Frag} {mg : Str → Option Value} {base : Heap} {k : Nat} {g : G} {S : FSp} {j : Nat} (hg : Here P w K mg base N__law_hanging (defScope s__law_hanging) k true g) (d : GDef P w K mg base "_law_take" j S) (hj : j ≤ k := by decide) : Cal g.X "_law_take" S := hg.cal hG__law_hanging d hj (.head _)
theorem ca__law_hanging__law_hung {P : Program} {w : World} {K : PySem.W.Frag} {mg : Str → Option Value} {base : Heap} {k : Nat} {g : G} {S : FSp} {j : Nat} (hg : Here P w K mg base N__law_hanging (defScope s__law_hanging) k true g) (d : GDef P w K mg base "_law_hung" j S) (hj : j ≤ k := by decide) : Cal g.X "_law_hung" S := hg.cal hG__law_hanging d hj (.tail _ (.tail _ (.head _)))
-- obtain ⟨v_well, v_top, v_names, v_drawn, w_well, w_top, w_names, w_drawn, l_well, l_top, l_names, l_drawn, b_len, ct⟩ := fx__law_hanging T hg
abbrev G__law_things : List Str := ["len", "_law_things"]
theorem hG__law_things : okG (defScope s__law_things) G__law_things = true := by decide +kernel
theorem fx__law_things {P : Program} {w : World} {K : PySem.W.Frag} {mg : Str → Option Value} {base : Heap} {k : Nat} {g : G} (T : Txt K mg) (hg : Here P w K mg base N__law_things (defScope s__law_things) k true g) :
    SlotV g.X "hanging" 0 ∧ SlotW g.X "hanging" 0 ∧ Lcl g.X "hanging" ∧ Blt g.X "len" (.builtin "len") ∧ Ct g.X k := by
  have hv : okV N__law_things (defScope s__law_things) [("hanging", 0)] = true := by decide +kernel
  have hw : okW N__law_things (defScope s__law_things) [("hanging", 0)] = true := by decide +kernel
  have hl : (["hanging"] : List Str).all (fun x => match (defScope s__law_things).names.lookup x with | some .local => true | _ => false) = true := by decide +kernel
  have hG := hG__law_things
  exact ⟨hg.v hv (.head _),
    hg.s hw (.head _),
    hg.l hl (.head _),
    hg.blt hG T.b_len (by decide +kernel) (.head _),
    hg.ct⟩
theorem ca__law_things__law_things {P : Program} {w : World} {K : PySem.W.Frag} {mg : Str → Option Value} {base : Heap} {k : Nat} {g : G} {S : FSp} {j : Nat} (hg : Here P w K mg base N__law_things (defScope s__law_things) k true g) (d : GDef P w K mg base "_law_things" j S) (hj : j ≤ k := by decide) : Cal g.X "_law_things" S := hg.cal hG__law_things d hj (.tail _ (.head _))
-- obtain ⟨v_hanging, w_hanging, l_hanging, b_len, ct⟩ := fx__law_things T hg
abbrev G__law_by : List Str := ["_law_frac"]
theorem hG__law_by : okG (defScope s__law_by) G__law_by = true := by decide +kernel
theorem fx__law_by {P : Program} {w : World} {K : PySem.W.Frag} {mg : Str → Option Value} {base : Heap} {k : Nat} {g : G} (T : Txt K mg) (hg : Here P w K mg base N__law_by (defScope s__law_by) k true g) :
    SlotV g.X "one" 0 ∧ SlotV g.X "other" 1 ∧ SlotW g.X "one" 0 ∧ SlotW g.X "other" 1 ∧ Lcl g.X "one" ∧ Lcl g.X "other" ∧ Ct g.X k := by
  have hv : okV N__law_by (defScope s__law_by) [("one", 0), ("other", 1)] = true := by decide +kernel
  have hw : okW N__law_by (defScope s__law_by) [("one", 0), ("other", 1)] = true := by decide +kernel
  have hl : (["one", "other"] : List Str).all (fun x => match (defScope s__law_by).names.lookup x with | some .local => true | _ => false) = true := by decide +kernel
  have hG := hG__law_by
  exact ⟨hg.v hv (.head _),
    hg.v hv (.tail _ (.head _)),
    hg.s hw (.head _),
    hg.s hw (.tail _ (.head _)),
    hg.l hl (.head _),
    hg.l hl (.tail _ (.head _)),
    hg.ct⟩
theorem ca__law_by__law_frac {P : Program} {w : World} {K : PySem.W.Frag} {mg : Str → Option Value} {base : Heap} {k : Nat} {g : G} {S : FSp} {j : Nat} (hg : Here P w K mg base N__law_by (defScope s__law_by) k true g) (d : GDef P w K mg base "_law_frac" j S) (hj : j ≤ k := by decide) : Cal g.X "_law_frac" S := hg.cal hG__law_by d hj (.head _)
-- obtain ⟨v_one, v_other, w_one, w_other, l_one, l_other, ct⟩ := fx__law_by T hg
abbrev G__law_felt : List Str := ["len", "_law_felt", "_law_plus", "_law_by"]
theorem hG__law_felt : okG (defScope s__law_felt) G__law_felt = true := by decide +kernel
theorem fx__law_felt {P : Program} {w : World} {K : PySem.W.Frag} {mg : Str → Option Value} {base : Heap} {k : Nat} {g : G} (T : Txt K mg) (hg : Here P w K mg base N__law_felt (defScope s__law_felt) k true g) :
    SlotV g.X "hanging" 0 ∧ SlotV g.X "known" 1 ∧ SlotV g.X "one" 2 ∧ SlotV g.X "other" 3 ∧ SlotV g.X "both" 4 ∧ SlotW g.X "hanging" 0 ∧ SlotW g.X "known" 1 ∧ SlotW g.X "one" 2 ∧ SlotW g.X "other" 3 ∧ SlotW g.X "both" 4 ∧ Lcl g.X "hanging" ∧ Lcl g.X "known" ∧ Lcl g.X "one" ∧ Lcl g.X "other" ∧ Lcl g.X "both" ∧ Blt g.X "len" (.builtin "len") ∧ Ct g.X k := by
  have hv : okV N__law_felt (defScope s__law_felt) [("hanging", 0), ("known", 1), ("one", 2), ("other", 3), ("both", 4)] = true := by decide +kernel
  have hw : okW N__law_felt (defScope s__law_felt) [("hanging", 0), ("known", 1), ("one", 2), ("other", 3), ("both", 4)] = true := by decide +kernel
  have hl : (["hanging", "known", "one", "other", "both"] : List Str).all (fun x => match (defScope s__law_felt).names.lookup x with | some .local => true | _ => false) = true := by decide +kernel
  have hG := hG__law_felt
  exact ⟨hg.v hv (.head _),
    hg.v hv (.tail _ (.head _)),
    hg.v hv (.tail _ (.tail _ (.head _))),
    hg.v hv (.tail _ (.tail _ (.tail _ (.head _)))),
    hg.v hv (.tail _ (.tail _ (.tail _ (.tail _ (.head _))))),
    hg.s hw (.head _),
    hg.s hw (.tail _ (.head _)),
    hg.s hw (.tail _ (.tail _ (.head _))),
    hg.s hw (.tail _ (.tail _ (.tail _ (.head _)))),
    hg.s hw (.tail _ (.tail _ (.tail _ (.tail _ (.head _))))),
    hg.l hl (.head _),
    hg.l hl (.tail _ (.head _)),
    hg.l hl (.tail _ (.tail _ (.head _))),
    hg.l hl (.tail _ (.tail _ (.tail _ (.head _)))),
    hg.l hl (.tail _ (.tail _ (.tail _ (.tail _ (.head _))))),
    hg.blt hG T.b_len (by decide +kernel) (.head _),
    hg.ct⟩
theorem ca__law_felt__law_felt {P : Program} {w : World} {K : PySem.W.Frag} {mg : Str → Option Value} {base : Heap} {k : Nat} {g : G} {S : FSp} {j : Nat} (hg : Here P w K mg base N__law_felt (defScope s__law_felt) k true g) (d : GDef P w K mg base "_law_felt" j S) (hj : j ≤ k := by decide) : Cal g.X "_law_felt" S := hg.cal hG__law_felt d hj (.tail _ (.head _))
theorem ca__law_felt__law_plus {P : Program} {w : World} {K : PySem.W.Frag} {mg : Str → Option Value} {base : Heap} {k : Nat} {g : G} {S : FSp} {j : Nat} (hg : Here P w K mg base N__law_felt (defScope s__law_felt) k true g) (d : GDef P w K mg base "_law_plus" j S) (hj : j ≤ k := by decide) : Cal g.X "_law_plus" S := hg.cal hG__law_felt d hj (.tail _ (.tail _ (.head _)))
theorem ca__law_felt__law_by {P : Program} {w : World} {K : PySem.W.Frag} {mg : Str → Option Value} {base : Heap} {k : Nat} {g : G} {S : FSp} {j : Nat} (hg : Here P w K mg base N__law_felt (defScope s__law_felt) k true g) (d : GDef P w K mg base "_law_by" j S) (hj : j ≤ k := by decide) : Cal g.X "_law_by" S := hg.cal hG__law_felt d hj (.tail _ (.tail _ (.tail _ (.head _))))
-- obtain ⟨v_hanging, v_known, v_one, v_other, v_both, w_hanging, w_known, w_one, w_other, w_both, l_hanging, l_known, l_one, l_other, l_both, b_len, ct⟩ := fx__law_felt T hg
abbrev G__law_speeds : List Str := ["len", "_law_felt", "_law_minus", "_law_plus", "_law_times", "_law_by", "_law_speeds"]
theorem hG__law_speeds : okG (defScope s__law_speeds) G__law_speeds = true := by decide +kernel
theorem fx__law_speeds {P : Program} {w : World} {K : PySem.W.Frag} {mg : Str → Option Value} {base : Heap} {k : Nat} {g : G} (T : Txt K mg) (hg : Here P w K mg base N__law_speeds (defScope s__law_speeds) k true g) :
    SlotV g.X "hanging" 0 ∧ SlotV g.X "known" 1 ∧ SlotV g.X "speed" 2 ∧ SlotV g.X "found" 3 ∧ SlotV g.X "one" 4 ∧ SlotV g.X "other" 5 ∧ SlotV g.X "rest" 6 ∧ SlotV g.X "both" 7 ∧ SlotV g.X "end" 8 ∧ SlotV g.X "beside" 9 ∧ SlotV g.X "part" 10 ∧ SlotW g.X "hanging" 0 ∧ SlotW g.X "known" 1 ∧ SlotW g.X "speed" 2 ∧ SlotW g.X "found" 3 ∧ SlotW g.X "one" 4 ∧ SlotW g.X "other" 5 ∧ SlotW g.X "rest" 6 ∧ SlotW g.X "both" 7 ∧ SlotW g.X "end" 8 ∧ SlotW g.X "beside" 9 ∧ SlotW g.X "part" 10 ∧ Lcl g.X "hanging" ∧ Lcl g.X "known" ∧ Lcl g.X "speed" ∧ Lcl g.X "found" ∧ Lcl g.X "one" ∧ Lcl g.X "other" ∧ Lcl g.X "rest" ∧ Lcl g.X "both" ∧ Lcl g.X "end" ∧ Lcl g.X "beside" ∧ Lcl g.X "part" ∧ Blt g.X "len" (.builtin "len") ∧ Ct g.X k := by
  have hv : okV N__law_speeds (defScope s__law_speeds) [("hanging", 0), ("known", 1), ("speed", 2), ("found", 3), ("one", 4), ("other", 5), ("rest", 6), ("both", 7), ("end", 8), ("beside", 9), ("part", 10)] = true := by decide +kernel
  have hw : okW N__law_speeds (defScope s__law_speeds) [("hanging", 0), ("known", 1), ("speed", 2), ("found", 3), ("one", 4), ("other", 5), ("rest", 6), ("both", 7), ("end", 8), ("beside", 9), ("part", 10)] = true := by decide +kernel
  have hl : (["hanging", "known", "speed", "found", "one", "other", "rest", "both", "end", "beside", "part"] : List Str).all (fun x => match (defScope s__law_speeds).names.lookup x with | some .local => true | _ => false) = true := by decide +kernel
  have hG := hG__law_speeds
  exact ⟨hg.v hv (.head _),
    hg.v hv (.tail _ (.head _)),
    hg.v hv (.tail _ (.tail _ (.head _))),
    hg.v hv (.tail _ (.tail _ (.tail _ (.head _)))),
    hg.v hv (.tail _ (.tail _ (.tail _ (.tail _ (.head _))))),
    hg.v hv (.tail _ (.tail _ (.tail _ (.tail _ (.tail _ (.head _)))))),
    hg.v hv (.tail _ (.tail _ (.tail _ (.tail _ (.tail _ (.tail _ (.head _))))))),
    hg.v hv (.tail _ (.tail _ (.tail _ (.tail _ (.tail _ (.tail _ (.tail _ (.head _)))))))),
    hg.v hv (.tail _ (.tail _ (.tail _ (.tail _ (.tail _ (.tail _ (.tail _ (.tail _ (.head _))))))))),
    hg.v hv (.tail _ (.tail _ (.tail _ (.tail _ (.tail _ (.tail _ (.tail _ (.tail _ (.tail _ (.head _)))))))))),
    hg.v hv (.tail _ (.tail _ (.tail _ (.tail _ (.tail _ (.tail _ (.tail _ (.tail _ (.tail _ (.tail _ (.head _))))))))))),
    hg.s hw (.head _),
    hg.s hw (.tail _ (.head _)),
    hg.s hw (.tail _ (.tail _ (.head _))),
    hg.s hw (.tail _ (.tail _ (.tail _ (.head _)))),
    hg.s hw (.tail _ (.tail _ (.tail _ (.tail _ (.head _))))),
    hg.s hw (.tail _ (.tail _ (.tail _ (.tail _ (.tail _ (.head _)))))),
    hg.s hw (.tail _ (.tail _ (.tail _ (.tail _ (.tail _ (.tail _ (.head _))))))),
    hg.s hw (.tail _ (.tail _ (.tail _ (.tail _ (.tail _ (.tail _ (.tail _ (.head _)))))))),
    hg.s hw (.tail _ (.tail _ (.tail _ (.tail _ (.tail _ (.tail _ (.tail _ (.tail _ (.head _))))))))),
    hg.s hw (.tail _ (.tail _ (.tail _ (.tail _ (.tail _ (.tail _ (.tail _ (.tail _ (.tail _ (.head _)))))))))),
    hg.s hw (.tail _ (.tail _ (.tail _ (.tail _ (.tail _ (.tail _ (.tail _ (.tail _ (.tail _ (.tail _ (.head _))))))))))),
    hg.l hl (.head _),
    hg.l hl (.tail _ (.head _)),
    hg.l hl (.tail _ (.tail _ (.head _))),
    hg.l hl (.tail _ (.tail _ (.tail _ (.head _)))),
    hg.l hl (.tail _ (.tail _ (.tail _ (.tail _ (.head _))))),
    hg.l hl (.tail _ (.tail _ (.tail _ (.tail _ (.tail _ (.head _)))))),
    hg.l hl (.tail _ (.tail _ (.tail _ (.tail _ (.tail _ (.tail _ (.head _))))))),
    hg.l hl (.tail _ (.tail _ (.tail _ (.tail _ (.tail _ (.tail _ (.tail _ (.head _)))))))),
    hg.l hl (.tail _ (.tail _ (.tail _ (.tail _ (.tail _ (.tail _ (.tail _ (.tail _ (.head _))))))))),
    hg.l hl (.tail _ (.tail _ (.tail _ (.tail _ (.tail _ (.tail _ (.tail _ (.tail _ (.tail _ (.head _)))))))))),
    hg.l hl (.tail _ (.tail _ (.tail _ (.tail _ (.tail _ (.tail _ (.tail _ (.tail _ (.tail _ (.tail _ (.head _))))))))))),
    hg.blt hG T.b_len (by decide +kernel) (.head _),
    hg.ct⟩
theorem ca__law_speeds__law_felt {P : Program} {w : World} {K : PySem.W.Frag} {mg : Str → Option Value} {base : Heap} {k : Nat} {g : G} {S : FSp} {j : Nat} (hg : Here P w K mg base N__law_speeds (defScope s__law_speeds) k true g) (d : GDef P w K mg base "_law_felt" j S) (hj : j ≤ k := by decide) : Cal g.X "_law_felt" S := hg.cal hG__law_speeds d hj (.tail _ (.head _))
theorem ca__law_speeds__law_minus {P : Program} {w : World} {K : PySem.W.Frag} {mg : Str → Option Value} {base : Heap} {k : Nat} {g : G} {S : FSp} {j : Nat} (hg : Here P w K mg base N__law_speeds (defScope s__law_speeds) k true g) (d : GDef P w K mg base "_law_minus" j S) (hj : j ≤ k := by decide) : Cal g.X "_law_minus" S := hg.cal hG__law_speeds d hj (.tail _ (.tail _ (.head _)))
theorem ca__law_speeds__law_plus {P : Program} {w : World} {K : PySem.W.Frag} {mg : Str → Option Value} {base : Heap} {k : Nat} {g : G} {S : FSp} {j : Nat} (hg : Here P w K mg base N__law_speeds (defScope s__law_speeds) k true g) (d : GDef P w K mg base "_law_plus" j S) (hj : j ≤ k := by decide) : Cal g.X "_law_plus" S := hg.cal hG__law_speeds d hj (.tail _ (.tail _ (.tail _ (.head _))))
theorem ca__law_speeds__law_times {P : Program} {w : World} {K : PySem.W.Frag} {mg : Str → Option Value} {base : Heap} {k : Nat} {g : G} {S : FSp} {j : Nat} (hg : Here P w K mg base N__law_speeds (defScope s__law_speeds) k true g) (d : GDef P w K mg base "_law_times" j S) (hj : j ≤ k := by decide) : Cal g.X "_law_times" S := hg.cal hG__law_speeds d hj (.tail _ (.tail _ (.tail _ (.tail _ (.head _)))))
theorem ca__law_speeds__law_by {P : Program} {w : World} {K : PySem.W.Frag} {mg : Str → Option Value} {base : Heap} {k : Nat} {g : G} {S : FSp} {j : Nat} (hg : Here P w K mg base N__law_speeds (defScope s__law_speeds) k true g) (d : GDef P w K mg base "_law_by" j S) (hj : j ≤ k := by decide) : Cal g.X "_law_by" S := hg.cal hG__law_speeds d hj (.tail _ (.tail _ (.tail _ (.tail _ (.tail _ (.head _))))))
theorem ca__law_speeds__law_speeds {P : Program} {w : World} {K : PySem.W.Frag} {mg : Str → Option Value} {base : Heap} {k : Nat} {g : G} {S : FSp} {j : Nat} (hg : Here P w K mg base N__law_speeds (defScope s__law_speeds) k true g) (d : GDef P w K mg base "_law_speeds" j S) (hj : j ≤ k := by decide) : Cal g.X "_law_speeds" S := hg.cal hG__law_speeds d hj (.tail _ (.tail _ (.tail _ (.tail _ (.tail _ (.tail _ (.head _)))))))
-- obtain ⟨v_hanging, v_known, v_speed, v_found, v_one, v_other, v_rest, v_both, v_end, v_beside, v_part, w_hanging, w_known, w_speed, w_found, w_one, w_other, w_rest, w_both, w_end, w_beside, w_part, l_hanging, l_known, l_speed, l_found, l_one, l_other, l_rest, l_both, l_end, l_beside, l_part, b_len, ct⟩ := fx__law_speeds T hg
abbrev G__law_agrees : List Str := ["_law_minus", "len", "_law_times", "_law_plus", "_law_agrees"]
theorem hG__law_agrees : okG (defScope s__law_agrees) G__law_agrees = true := by decide +kernel
theorem fx__law_agrees {P : Program} {w : World} {K : PySem.W.Frag} {mg : Str → Option Value} {base : Heap} {k : Nat} {g : G} (T : Txt K mg) (hg : Here P w K mg base N__law_agrees (defScope s__law_agrees) k true g) :
    SlotV g.X "hanging" 0 ∧ SlotV g.X "run" 1 ∧ SlotV g.X "pull" 2 ∧ SlotV g.X "rest" 3 ∧ SlotV g.X "one" 4 ∧ SlotV g.X "other" 5 ∧ SlotV g.X "both" 6 ∧ SlotV g.X "due" 7 ∧ SlotW g.X "hanging" 0 ∧ SlotW g.X "run" 1 ∧ SlotW g.X "pull" 2 ∧ SlotW g.X "rest" 3 ∧ SlotW g.X "one" 4 ∧ SlotW g.X "other" 5 ∧ SlotW g.X "both" 6 ∧ SlotW g.X "due" 7 ∧ Lcl g.X "hanging" ∧ Lcl g.X "run" ∧ Lcl g.X "pull" ∧ Lcl g.X "rest" ∧ Lcl g.X "one" ∧ Lcl g.X "other" ∧ Lcl g.X "both" ∧ Lcl g.X "due" ∧ Blt g.X "len" (.builtin "len") ∧ Ct g.X k := by
  have hv : okV N__law_agrees (defScope s__law_agrees) [("hanging", 0), ("run", 1), ("pull", 2), ("rest", 3), ("one", 4), ("other", 5), ("both", 6), ("due", 7)] = true := by decide +kernel
  have hw : okW N__law_agrees (defScope s__law_agrees) [("hanging", 0), ("run", 1), ("pull", 2), ("rest", 3), ("one", 4), ("other", 5), ("both", 6), ("due", 7)] = true := by decide +kernel
  have hl : (["hanging", "run", "pull", "rest", "one", "other", "both", "due"] : List Str).all (fun x => match (defScope s__law_agrees).names.lookup x with | some .local => true | _ => false) = true := by decide +kernel
  have hG := hG__law_agrees
  exact ⟨hg.v hv (.head _),
    hg.v hv (.tail _ (.head _)),
    hg.v hv (.tail _ (.tail _ (.head _))),
    hg.v hv (.tail _ (.tail _ (.tail _ (.head _)))),
    hg.v hv (.tail _ (.tail _ (.tail _ (.tail _ (.head _))))),
    hg.v hv (.tail _ (.tail _ (.tail _ (.tail _ (.tail _ (.head _)))))),
    hg.v hv (.tail _ (.tail _ (.tail _ (.tail _ (.tail _ (.tail _ (.head _))))))),
    hg.v hv (.tail _ (.tail _ (.tail _ (.tail _ (.tail _ (.tail _ (.tail _ (.head _)))))))),
    hg.s hw (.head _),
    hg.s hw (.tail _ (.head _)),
    hg.s hw (.tail _ (.tail _ (.head _))),
    hg.s hw (.tail _ (.tail _ (.tail _ (.head _)))),
    hg.s hw (.tail _ (.tail _ (.tail _ (.tail _ (.head _))))),
    hg.s hw (.tail _ (.tail _ (.tail _ (.tail _ (.tail _ (.head _)))))),
    hg.s hw (.tail _ (.tail _ (.tail _ (.tail _ (.tail _ (.tail _ (.head _))))))),
    hg.s hw (.tail _ (.tail _ (.tail _ (.tail _ (.tail _ (.tail _ (.tail _ (.head _)))))))),
    hg.l hl (.head _),
    hg.l hl (.tail _ (.head _)),
    hg.l hl (.tail _ (.tail _ (.head _))),
    hg.l hl (.tail _ (.tail _ (.tail _ (.head _)))),
    hg.l hl (.tail _ (.tail _ (.tail _ (.tail _ (.head _))))),
    hg.l hl (.tail _ (.tail _ (.tail _ (.tail _ (.tail _ (.head _)))))),
    hg.l hl (.tail _ (.tail _ (.tail _ (.tail _ (.tail _ (.tail _ (.head _))))))),
    hg.l hl (.tail _ (.tail _ (.tail _ (.tail _ (.tail _ (.tail _ (.tail _ (.head _)))))))),
    hg.blt hG T.b_len (by decide +kernel) (.tail _ (.head _)),
    hg.ct⟩
theorem ca__law_agrees__law_minus {P : Program} {w : World} {K : PySem.W.Frag} {mg : Str → Option Value} {base : Heap} {k : Nat} {g : G} {S : FSp} {j : Nat} (hg : Here P w K mg base N__law_agrees (defScope s__law_agrees) k true g) (d : GDef P w K mg base "_law_minus" j S) (hj : j ≤ k := by decide) : Cal g.X "_law_minus" S := hg.cal hG__law_agrees d hj (.head _)
theorem ca__law_agrees__law_times {P : Program} {w : World} {K : PySem.W.Frag} {mg : Str → Option Value} {base : Heap} {k : Nat} {g : G} {S : FSp} {j : Nat} (hg : Here P w K mg base N__law_agrees (defScope s__law_agrees) k true g) (d : GDef P w K mg base "_law_times" j S) (hj : j ≤ k := by decide) : Cal g.X "_law_times" S := hg.cal hG__law_agrees d hj (.tail _ (.tail _ (.head _)))
theorem ca__law_agrees__law_plus {P : Program} {w : World} {K : PySem.W.Frag} {mg : Str → Option Value} {base : Heap} {k : Nat} {g : G} {S : FSp} {j : Nat} (hg : Here P w K mg base N__law_agrees (defScope s__law_agrees) k true g) (d : GDef P w K mg base "_law_plus" j S) (hj : j ≤ k := by decide) : Cal g.X "_law_plus" S := hg.cal hG__law_agrees d hj (.tail _ (.tail _ (.tail _ (.head _))))
theorem ca__law_agrees__law_agrees {P : Program} {w : World} {K : PySem.W.Frag} {mg : Str → Option Value} {base : Heap} {k : Nat} {g : G} {S : FSp} {j : Nat} (hg : Here P w K mg base N__law_agrees (defScope s__law_agrees) k true g) (d : GDef P w K mg base "_law_agrees" j S) (hj : j ≤ k := by decide) : Cal g.X "_law_agrees" S := hg.cal hG__law_agrees d hj (.tail _ (.tail _ (.tail _ (.tail _ (.head _)))))
-- obtain ⟨v_hanging, v_run, v_pull, v_rest, v_one, v_other, v_both, v_due, w_hanging, w_run, w_pull, w_rest, w_one, w_other, w_both, w_due, l_hanging, l_run, l_pull, l_rest, l_one, l_other, l_both, l_due, b_len, ct⟩ := fx__law_agrees T hg
abbrev G__law_even : List Str := ["_law_things", "len", "_law_felt"]
theorem hG__law_even : okG (defScope s__law_even) G__law_even = true := by decide +kernel
theorem fx__law_even {P : Program} {w : World} {K : PySem.W.Frag} {mg : Str → Option Value} {base : Heap} {k : Nat} {g : G} (T : Txt K mg) (hg : Here P w K mg base N__law_even (defScope s__law_even) k true g) :
    SlotV g.X "hanging" 0 ∧ SlotV g.X "thing" 1 ∧ SlotW g.X "hanging" 0 ∧ SlotW g.X "thing" 1 ∧ Lcl g.X "hanging" ∧ Lcl g.X "thing" ∧ Blt g.X "len" (.builtin "len") ∧ Ct g.X k := by
  have hv : okV N__law_even (defScope s__law_even) [("hanging", 0), ("thing", 1)] = true := by decide +kernel
  have hw : okW N__law_even (defScope s__law_even) [("hanging", 0), ("thing", 1)] = true := by decide +kernel
  have hl : (["hanging", "thing"] : List Str).all (fun x => match (defScope s__law_even).names.lookup x with | some .local => true | _ => false) = true := by decide +kernel
  have hG := hG__law_even
  exact ⟨hg.v hv (.head _),
    hg.v hv (.tail _ (.head _)),
    hg.s hw (.head _),
    hg.s hw (.tail _ (.head _)),
    hg.l hl (.head _),
    hg.l hl (.tail _ (.head _)),
    hg.blt hG T.b_len (by decide +kernel) (.tail _ (.head _)),
    hg.ct⟩
theorem ca__law_even__law_things {P : Program} {w : World} {K : PySem.W.Frag} {mg : Str → Option Value} {base : Heap} {k : Nat} {g : G} {S : FSp} {j : Nat} (hg : Here P w K mg base N__law_even (defScope s__law_even) k true g) (d : GDef P w K mg base "_law_things" j S) (hj : j ≤ k := by decide) : Cal g.X "_law_things" S := hg.cal hG__law_even d hj (.head _)
theorem ca__law_even__law_felt {P : Program} {w : World} {K : PySem.W.Frag} {mg : Str → Option Value} {base : Heap} {k : Nat} {g : G} {S : FSp} {j : Nat} (hg : Here P w K mg base N__law_even (defScope s__law_even) k true g) (d : GDef P w K mg base "_law_felt" j S) (hj : j ≤ k := by decide) : Cal g.X "_law_felt" S := hg.cal hG__law_even d hj (.tail _ (.tail _ (.head _)))
-- obtain ⟨v_hanging, v_thing, w_hanging, w_thing, l_hanging, l_thing, b_len, ct⟩ := fx__law_even T hg
abbrev G__law_still : List Str := ["_law_take", "_law_still"]
theorem hG__law_still : okG (defScope s__law_still) G__law_still = true := by decide +kernel
theorem fx__law_still {P : Program} {w : World} {K : PySem.W.Frag} {mg : Str → Option Value} {base : Heap} {k : Nat} {g : G} (T : Txt K mg) (hg : Here P w K mg base N__law_still (defScope s__law_still) k true g) :
    SlotV g.X "well" 0 ∧ SlotV g.X "whole" 1 ∧ SlotV g.X "deep" 2 ∧ SlotV g.X "names" 3 ∧ SlotV g.X "half" 4 ∧ SlotV g.X "name" 5 ∧ SlotV g.X "one" 6 ∧ SlotW g.X "well" 0 ∧ SlotW g.X "whole" 1 ∧ SlotW g.X "deep" 2 ∧ SlotW g.X "names" 3 ∧ SlotW g.X "half" 4 ∧ SlotW g.X "name" 5 ∧ SlotW g.X "one" 6 ∧ Lcl g.X "well" ∧ Lcl g.X "whole" ∧ Lcl g.X "deep" ∧ Lcl g.X "names" ∧ Lcl g.X "half" ∧ Lcl g.X "name" ∧ Lcl g.X "one" ∧ Ct g.X k := by
  have hv : okV N__law_still (defScope s__law_still) [("well", 0), ("whole", 1), ("deep", 2), ("names", 3), ("half", 4), ("name", 5), ("one", 6)] = true := by decide +kernel
  have hw : okW N__law_still (defScope s__law_still) [("well", 0), ("whole", 1), ("deep", 2), ("names", 3), ("half", 4), ("name", 5), ("one", 6)] = true := by decide +kernel
  have hl : (["well", "whole", "deep", "names", "half", "name", "one"] : List Str).all (fun x => match (defScope s__law_still).names.lookup x with | some .local => true | _ => false) = true := by decide +kernel
  have hG := hG__law_still
  exact ⟨hg.v hv (.head _),
    hg.v hv (.tail _ (.head _)),
    hg.v hv (.tail _ (.tail _ (.head _))),
    hg.v hv (.tail _ (.tail _ (.tail _ (.head _)))),
    hg.v hv (.tail _ (.tail _ (.tail _ (.tail _ (.head _))))),
    hg.v hv (.tail _ (.tail _ (.tail _ (.tail _ (.tail _ (.head _)))))),
    hg.v hv (.tail _ (.tail _ (.tail _ (.tail _ (.tail _ (.tail _ (.head _))))))),
    hg.s hw (.head _),
    hg.s hw (.tail _ (.head _)),
    hg.s hw (.tail _ (.tail _ (.head _))),
    hg.s hw (.tail _ (.tail _ (.tail _ (.head _)))),
    hg.s hw (.tail _ (.tail _ (.tail _ (.tail _ (.head _))))),
    hg.s hw (.tail _ (.tail _ (.tail _ (.tail _ (.tail _ (.head _)))))),
    hg.s hw (.tail _ (.tail _ (.tail _ (.tail _ (.tail _ (.tail _ (.head _))))))),
    hg.l hl (.head _),
    hg.l hl (.tail _ (.head _)),
    hg.l hl (.tail _ (.tail _ (.head _))),
    hg.l hl (.tail _ (.tail _ (.tail _ (.head _)))),
    hg.l hl (.tail _ (.tail _ (.tail _ (.tail _ (.head _))))),
    hg.l hl (.tail _ (.tail _ (.tail _ (.tail _ (.tail _ (.head _)))))),
    hg.l hl (.tail _ (.tail _ (.tail _ (.tail _ (.tail _ (.tail _ (.head _))))))),
    hg.ct⟩
theorem ca__law_still__law_take {P : Program} {w : World} {K : PySem.W.Frag} {mg : Str → Option Value} {base : Heap} {k : Nat} {g : G} {S : FSp} {j : Nat} (hg : Here P w K mg base N__law_still (defScope s__law_still) k true g) (d : GDef P w K mg base "_law_take" j S) (hj : j ≤ k := by decide) : Cal g.X "_law_take" S := hg.cal hG__law_still d hj (.head _)
theorem ca__law_still__law_still {P : Program} {w : World} {K : PySem.W.Frag} {mg : Str → Option Value} {base : Heap} {k : Nat} {g : G} {S : FSp} {j : Nat} (hg : Here P w K mg base N__law_still (defScope s__law_still) k true g) (d : GDef P w K mg base "_law_still" j S) (hj : j ≤ k := by decide) : Cal g.X "_law_still" S := hg.cal hG__law_still d hj (.tail _ (.head _))
-- obtain ⟨v_well, v_whole, v_deep, v_names, v_half, v_name, v_one, w_well, w_whole, w_deep, w_names, w_half, w_name, w_one, l_well, l_whole, l_deep, l_names, l_half, l_name, l_one, ct⟩ := fx__law_still T hg
abbrev G_law : List Str := ["range", "max", "min", "len", "_law_well", "_law_still", "_law_take", "_law_hanging", "speeds", "held", "names_of", "dict", "_law_agrees", "_law_speeds", "_law_says", "rests", "_law_even"]
theorem hG_law : okG (defScope s_law) G_law = true := by decide +kernel
theorem fx_law {P : Program} {w : World} {K : PySem.W.Frag} {mg : Str → Option Value} {base : Heap} {k : Nat} {g : G} (T : Txt K mg) (hg : Here P w K mg base N_law (defScope s_law) k true g) :
    SlotV g.X "script" 0 ∧ SlotV g.X "k" 1 ∧ SlotV g.X "well" 2 ∧ SlotV g.X "names" 3 ∧ SlotV g.X "still" 4 ∧ SlotV g.X "hanging" 5 ∧ SlotV g.X "told" 6 ∧ SlotV g.X "pulls" 7 ∧ SlotV g.X "run" 8 ∧ SlotV g.X "pull" 9 ∧ SlotV g.X "still_so" 10 ∧ SlotW g.X "script" 0 ∧ SlotW g.X "k" 1 ∧ SlotW g.X "well" 2 ∧ SlotW g.X "names" 3 ∧ SlotW g.X "still" 4 ∧ SlotW g.X "hanging" 5 ∧ SlotW g.X "told" 6 ∧ SlotW g.X "pulls" 7 ∧ SlotW g.X "run" 8 ∧ SlotW g.X "pull" 9 ∧ SlotW g.X "still_so" 10 ∧ Lcl g.X "script" ∧ Lcl g.X "k" ∧ Lcl g.X "well" ∧ Lcl g.X "names" ∧ Lcl g.X "still" ∧ Lcl g.X "hanging" ∧ Lcl g.X "told" ∧ Lcl g.X "pulls" ∧ Lcl g.X "pull" ∧ Lcl g.X "still_so" ∧ Blt g.X "range" (.type "range") ∧ Blt g.X "max" (.builtin "max") ∧ Blt g.X "min" (.builtin "min") ∧ Blt g.X "len" (.builtin "len") ∧ Blt g.X "dict" (.type "dict") ∧ Ct g.X k := by
  have hv : okV N_law (defScope s_law) [("script", 0), ("k", 1), ("well", 2), ("names", 3), ("still", 4), ("hanging", 5), ("told", 6), ("pulls", 7), ("run", 8), ("pull", 9), ("still_so", 10)] = true := by decide +kernel
  have hw : okW N_law (defScope s_law) [("script", 0), ("k", 1), ("well", 2), ("names", 3), ("still", 4), ("hanging", 5), ("told", 6), ("pulls", 7), ("run", 8), ("pull", 9), ("still_so", 10)] = true := by decide +kernel
  have hl : (["script", "k", "well", "names", "still", "hanging", "told", "pulls", "pull", "still_so"] : List Str).all (fun x => match (defScope s_law).names.lookup x with | some .local => true | _ => false) = true := by decide +kernel
  have hG := hG_law
  exact ⟨hg.v hv (.head _),
    hg.v hv (.tail _ (.head _)),
    hg.v hv (.tail _ (.tail _ (.head _))),
    hg.v hv (.tail _ (.tail _ (.tail _ (.head _)))),
    hg.v hv (.tail _ (.tail _ (.tail _ (.tail _ (.head _))))),
    hg.v hv (.tail _ (.tail _ (.tail _ (.tail _ (.tail _ (.head _)))))),
    hg.v hv (.tail _ (.tail _ (.tail _ (.tail _ (.tail _ (.tail _ (.head _))))))),
    hg.v hv (.tail _ (.tail _ (.tail _ (.tail _ (.tail _ (.tail _ (.tail _ (.head _)))))))),
    hg.v hv (.tail _ (.tail _ (.tail _ (.tail _ (.tail _ (.tail _ (.tail _ (.tail _ (.head _))))))))),
    hg.v hv (.tail _ (.tail _ (.tail _ (.tail _ (.tail _ (.tail _ (.tail _ (.tail _ (.tail _ (.head _)))))))))),
    hg.v hv (.tail _ (.tail _ (.tail _ (.tail _ (.tail _ (.tail _ (.tail _ (.tail _ (.tail _ (.tail _ (.head _))))))))))),
    hg.s hw (.head _),
    hg.s hw (.tail _ (.head _)),
    hg.s hw (.tail _ (.tail _ (.head _))),
    hg.s hw (.tail _ (.tail _ (.tail _ (.head _)))),
    hg.s hw (.tail _ (.tail _ (.tail _ (.tail _ (.head _))))),
    hg.s hw (.tail _ (.tail _ (.tail _ (.tail _ (.tail _ (.head _)))))),
    hg.s hw (.tail _ (.tail _ (.tail _ (.tail _ (.tail _ (.tail _ (.head _))))))),
    hg.s hw (.tail _ (.tail _ (.tail _ (.tail _ (.tail _ (.tail _ (.tail _ (.head _)))))))),
    hg.s hw (.tail _ (.tail _ (.tail _ (.tail _ (.tail _ (.tail _ (.tail _ (.tail _ (.head _))))))))),
    hg.s hw (.tail _ (.tail _ (.tail _ (.tail _ (.tail _ (.tail _ (.tail _ (.tail _ (.tail _ (.head _)))))))))),
    hg.s hw (.tail _ (.tail _ (.tail _ (.tail _ (.tail _ (.tail _ (.tail _ (.tail _ (.tail _ (.tail _ (.head _))))))))))),
    hg.l hl (.head _),
    hg.l hl (.tail _ (.head _)),
    hg.l hl (.tail _ (.tail _ (.head _))),
    hg.l hl (.tail _ (.tail _ (.tail _ (.head _)))),
    hg.l hl (.tail _ (.tail _ (.tail _ (.tail _ (.head _))))),
    hg.l hl (.tail _ (.tail _ (.tail _ (.tail _ (.tail _ (.head _)))))),
    hg.l hl (.tail _ (.tail _ (.tail _ (.tail _ (.tail _ (.tail _ (.head _))))))),
    hg.l hl (.tail _ (.tail _ (.tail _ (.tail _ (.tail _ (.tail _ (.tail _ (.head _)))))))),
    hg.l hl (.tail _ (.tail _ (.tail _ (.tail _ (.tail _ (.tail _ (.tail _ (.tail _ (.head _))))))))),
    hg.l hl (.tail _ (.tail _ (.tail _ (.tail _ (.tail _ (.tail _ (.tail _ (.tail _ (.tail _ (.head _)))))))))),
    hg.blt hG T.b_range (by decide +kernel) (.head _),
    hg.blt hG T.b_max (by decide +kernel) (.tail _ (.head _)),
    hg.blt hG T.b_min (by decide +kernel) (.tail _ (.tail _ (.head _))),
    hg.blt hG T.b_len (by decide +kernel) (.tail _ (.tail _ (.tail _ (.head _)))),
    hg.blt hG T.b_dict (by decide +kernel) (.tail _ (.tail _ (.tail _ (.tail _ (.tail _ (.tail _ (.tail _ (.tail _ (.tail _ (.tail _ (.tail _ (.head _)))))))))))),
    hg.ct⟩
theorem ca_law__law_well {P : Program} {w : World} {K : PySem.W.Frag} {mg : Str → Option Value} {base : Heap} {k : Nat} {g : G} {S : FSp} {j : Nat} (hg : Here P w K mg base N_law (defScope s_law) k true g) (d : GDef P w K mg base "_law_well" j S) (hj : j ≤ k := by decide) : Cal g.X "_law_well" S := hg.cal hG_law d hj (.tail _ (.tail _ (.tail _ (.tail _ (.head _)))))
theorem ca_law__law_still {P : Program} {w : World} {K : PySem.W.Frag} {mg : Str → Option Value} {base : Heap} {k : Nat} {g : G} {S : FSp} {j : Nat} (hg : Here P w K mg base N_law (defScope s_law) k true g) (d : GDef P w K mg base "_law_still" j S) (hj : j ≤ k := by decide) : Cal g.X "_law_still" S := hg.cal hG_law d hj (.tail _ (.tail _ (.tail _ (.tail _ (.tail _ (.head _))))))
theorem ca_law__law_take {P : Program} {w : World} {K : PySem.W.Frag} {mg : Str → Option Value} {base : Heap} {k : Nat} {g : G} {S : FSp} {j : Nat} (hg : Here P w K mg base N_law (defScope s_law) k true g) (d : GDef P w K mg base "_law_take" j S) (hj : j ≤ k := by decide) : Cal g.X "_law_take" S := hg.cal hG_law d hj (.tail _ (.tail _ (.tail _ (.tail _ (.tail _ (.tail _ (.head _)))))))
theorem ca_law__law_hanging {P : Program} {w : World} {K : PySem.W.Frag} {mg : Str → Option Value} {base : Heap} {k : Nat} {g : G} {S : FSp} {j : Nat} (hg : Here P w K mg base N_law (defScope s_law) k true g) (d : GDef P w K mg base "_law_hanging" j S) (hj : j ≤ k := by decide) : Cal g.X "_law_hanging" S := hg.cal hG_law d hj (.tail _ (.tail _ (.tail _ (.tail _ (.tail _ (.tail _ (.tail _ (.head _))))))))
theorem ca_law_speeds {P : Program} {w : World} {K : PySem.W.Frag} {mg : Str → Option Value} {base : Heap} {k : Nat} {g : G} {S : FSp} {j : Nat} (hg : Here P w K mg base N_law (defScope s_law) k true g) (d : GDef P w K mg base "speeds" j S) (hj : j ≤ k := by decide) : Cal g.X "speeds" S := hg.cal hG_law d hj (.tail _ (.tail _ (.tail _ (.tail _ (.tail _ (.tail _ (.tail _ (.tail _ (.head _)))))))))
theorem ca_law_held {P : Program} {w : World} {K : PySem.W.Frag} {mg : Str → Option Value} {base : Heap} {k : Nat} {g : G} {S : FSp} {j : Nat} (hg : Here P w K mg base N_law (defScope s_law) k true g) (d : GDef P w K mg base "held" j S) (hj : j ≤ k := by decide) : Cal g.X "held" S := hg.cal hG_law d hj (.tail _ (.tail _ (.tail _ (.tail _ (.tail _ (.tail _ (.tail _ (.tail _ (.tail _ (.head _))))))))))
theorem ca_law_names_of {P : Program} {w : World} {K : PySem.W.Frag} {mg : Str → Option Value} {base : Heap} {k : Nat} {g : G} {S : FSp} {j : Nat} (hg : Here P w K mg base N_law (defScope s_law) k true g) (d : GDef P w K mg base "names_of" j S) (hj : j ≤ k := by decide) : Cal g.X "names_of" S := hg.cal hG_law d hj (.tail _ (.tail _ (.tail _ (.tail _ (.tail _ (.tail _ (.tail _ (.tail _ (.tail _ (.tail _ (.head _)))))))))))
theorem ca_law__law_agrees {P : Program} {w : World} {K : PySem.W.Frag} {mg : Str → Option Value} {base : Heap} {k : Nat} {g : G} {S : FSp} {j : Nat} (hg : Here P w K mg base N_law (defScope s_law) k true g) (d : GDef P w K mg base "_law_agrees" j S) (hj : j ≤ k := by decide) : Cal g.X "_law_agrees" S := hg.cal hG_law d hj (.tail _ (.tail _ (.tail _ (.tail _ (.tail _ (.tail _ (.tail _ (.tail _ (.tail _ (.tail _ (.tail _ (.tail _ (.head _)))))))))))))
theorem ca_law__law_speeds {P : Program} {w : World} {K : PySem.W.Frag} {mg : Str → Option Value} {base : Heap} {k : Nat} {g : G} {S : FSp} {j : Nat} (hg : Here P w K mg base N_law (defScope s_law) k true g) (d : GDef P w K mg base "_law_speeds" j S) (hj : j ≤ k := by decide) : Cal g.X "_law_speeds" S := hg.cal hG_law d hj (.tail _ (.tail _ (.tail _ (.tail _ (.tail _ (.tail _ (.tail _ (.tail _ (.tail _ (.tail _ (.tail _ (.tail _ (.tail _ (.head _))))))))))))))
theorem ca_law__law_says {P : Program} {w : World} {K : PySem.W.Frag} {mg : Str → Option Value} {base : Heap} {k : Nat} {g : G} {S : FSp} {j : Nat} (hg : Here P w K mg base N_law (defScope s_law) k true g) (d : GDef P w K mg base "_law_says" j S) (hj : j ≤ k := by decide) : Cal g.X "_law_says" S := hg.cal hG_law d hj (.tail _ (.tail _ (.tail _ (.tail _ (.tail _ (.tail _ (.tail _ (.tail _ (.tail _ (.tail _ (.tail _ (.tail _ (.tail _ (.tail _ (.head _)))))))))))))))
theorem ca_law_rests {P : Program} {w : World} {K : PySem.W.Frag} {mg : Str → Option Value} {base : Heap} {k : Nat} {g : G} {S : FSp} {j : Nat} (hg : Here P w K mg base N_law (defScope s_law) k true g) (d : GDef P w K mg base "rests" j S) (hj : j ≤ k := by decide) : Cal g.X "rests" S := hg.cal hG_law d hj (.tail _ (.tail _ (.tail _ (.tail _ (.tail _ (.tail _ (.tail _ (.tail _ (.tail _ (.tail _ (.tail _ (.tail _ (.tail _ (.tail _ (.tail _ (.head _))))))))))))))))
theorem ca_law__law_even {P : Program} {w : World} {K : PySem.W.Frag} {mg : Str → Option Value} {base : Heap} {k : Nat} {g : G} {S : FSp} {j : Nat} (hg : Here P w K mg base N_law (defScope s_law) k true g) (d : GDef P w K mg base "_law_even" j S) (hj : j ≤ k := by decide) : Cal g.X "_law_even" S := hg.cal hG_law d hj (.tail _ (.tail _ (.tail _ (.tail _ (.tail _ (.tail _ (.tail _ (.tail _ (.tail _ (.tail _ (.tail _ (.tail _ (.tail _ (.tail _ (.tail _ (.tail _ (.head _)))))))))))))))))
-- obtain ⟨v_script, v_k, v_well, v_names, v_still, v_hanging, v_told, v_pulls, v_run, v_pull, v_still_so, w_script, w_k, w_well, w_names, w_still, w_hanging, w_told, w_pulls, w_run, w_pull, w_still_so, l_script, l_k, l_well, l_names, l_still, l_hanging, l_told, l_pulls, l_pull, l_still_so, b_range, b_max, b_min, b_len, b_dict, ct⟩ := fx_law T hg
end KW

set_option Elab.async false
set_option linter.all false
set_option maxRecDepth 100000
set_option maxHeartbeats 4000000
namespace KW
open PySem PySem.Spec L2 FW
/-- the walk over data, a rule a step -/
local macro_rules | `(tactic| walk_at "fwS") => `(tactic| first
  | with_reducible refine b_cons ?_
  | with_reducible refine b_nil ?_
  | with_reducible refine s_if ?_
  | ((with_reducible refine' s_retO (by assumption) ?hr ?_); (case hr => with_unfolding_all rfl))
  | with_reducible refine s_ret ?_
  | ((with_reducible refine' s_par (by assumption) (by assumption) (by assumption) (by assumption) (by assumption) ?_ ?h1 ?h2 ?h3 ?h4 ?h5 ?h6 ?h7 ?h8); (case h1 => decide); (case h2 => rfl); (case h3 => decide); (case h4 => rfl); (case h5 => rfl); (case h6 => decide); (case h7 => decide); (case h8 => rfl))
  | ((with_reducible refine' s_expr ?_ ?hs); (case hs => rfl))
  | ((with_reducible show GoS _ (.Assign _ (.List _ _) _) _ _); (with_reducible refine' s_setO (by assumption) ?_ ?hs); (case hs => rfl))
  | ((with_reducible show GoS _ (.Assign [.Subscript _ _ _] _ _) _ _); (refine s_setIx (by assumption) (by with_unfolding_all rfl) ?_))
  | ((with_reducible refine' s_set (by assumption) ?_ ?hs); (case hs => with_unfolding_all rfl)))
local macro_rules | `(tactic| walk_at "fwV") => `(tactic| first
  | ((with_reducible refine' g_var (by assumption) ?hr ?_); (case hr => with_unfolding_all rfl))
  | with_reducible refine g_int ?_
  | ((with_reducible show GoV _ (.Subscript (.Name "table" _) _ _) _ _); (refine g_dix (by assumption) ?_))
  | ((with_reducible show GoV _ (.Subscript (.Call (.Name "dict" _) _ _ _) _ _) _ _); (refine g_dix (by assumption) ?_))
  | ((with_reducible refine' g_ixO (by assumption) ?ho ?_ ?hs); (case ho => with_unfolding_all rfl); (case hs => exact fun _ _ => rfl))
  | ((with_reducible refine' g_ix ?_ ?hs); (case hs => exact fun _ _ => rfl))
  | ((with_reducible show GoV _ (.BinOp (.List _ _) .Add _ _) _ _); (with_reducible refine v_e ?_); (with_reducible refine g_catL ?_))
  | ((with_reducible show GoV _ (.BinOp (.BinOp (.List _ _) .Add _ _) .Add _ _) _ _); (with_reducible refine v_e ?_); (with_reducible refine g_catL ?_))
  | with_reducible refine g_catT (b := .Tuple _ _ _) ?_
  | with_reducible refine g_add ?_
  | with_reducible refine g_mul ?_
  | with_reducible refine g_sub ?_
  | with_reducible refine g_tup ?_
  | ((with_reducible refine' g_lenSet (by assumption) (by assumption) (by assumption) ?_ ?h1); (case h1 => rfl))
  | ((with_reducible refine' g_lenO (by assumption) (by assumption) ?ho ?_ ?h1 ?h2 ?h3); (case ho => with_unfolding_all rfl); (case h1 => rfl); (case h2 => rfl); (case h3 => rfl))
  | ((with_reducible refine' g_len (by assumption) ?_ ?h1 ?h2); (case h1 => rfl); (case h2 => rfl))
  | with_reducible refine g_str ?_
  | with_reducible refine g_bl ?_
  | with_reducible refine g_non ?_
  | with_reducible refine g_glob (by assumption) ?_
  | with_reducible refine g_bltn (by assumption) ?_
  | with_reducible refine g_mod ?_
  | ((with_reducible refine' g_append (by assumption) ?ho ?_ ?h1 ?h2 ?h3); (case ho => with_unfolding_all rfl); (case h1 => exact ⟨rfl, rfl, rfl⟩); (case h2 => rfl); (case h3 => rfl))
  | ((with_reducible refine' g_popAt (by assumption) ?ho ?_ ?h1 ?h2 ?h3); (case ho => with_unfolding_all rfl); (case h1 => exact ⟨rfl, rfl, rfl⟩); (case h2 => rfl); (case h3 => rfl))
  | with_reducible refine g_fdiv ?_
  | with_reducible refine g_pow ?_
  | with_reducible refine g_neg ?_
  | ((with_reducible refine' g_abs (by assumption) ?_ ?h1 ?h2); (case h1 => rfl); (case h2 => rfl))
  | ((with_reducible refine' g_all ?hc (by assumption) ?_ ?h1 ?h2); (case hc => exact Ct.calm (by assumption)); (case h1 => rfl); (case h2 => rfl))
  | ((with_reducible refine' g_chain2 ?_ ?hm); (case hm => with_unfolding_all rfl))
  | ((with_reducible refine' g_get2 (by assumption) ?_ ?hm); (case hm => exact ⟨rfl, rfl, rfl, rfl⟩))
  | ((with_reducible refine' g_slT ?_))
  | with_reducible refine g_eqX (by assumption) ?_
  | with_reducible refine g_neX (by assumption) ?_
  | with_reducible refine g_isN ?_
  | ((with_reducible refine' g_isi (T := "") (C := "") (by assumption) ?_ ?h1 ?h2 ?h3); (case h1 => rfl); (case h2 => rfl); (case h3 => rfl))
  | with_reducible refine g_ifx ?_
  | with_reducible refine g_lt ?_
  | with_reducible refine g_le ?_
  | with_reducible refine g_gt ?_
  | with_reducible refine g_and ?_
  | with_reducible refine g_or ?_
  | with_reducible refine g_one ?_
  | with_reducible refine g_not ?_)
local macro_rules | `(tactic| walk_at "fwE") => `(tactic| first
  | ((with_reducible refine' g_call (by assumption) ?_ ?h1 ?h2); (case h1 => rfl); (case h2 => rfl))
  | ((with_reducible show GoE _ (.BinOp (.List _ _) .Add _ _) _ _); (with_reducible refine g_catL ?_))
  | ((with_reducible show GoE _ (.BinOp (.BinOp (.List _ _) .Add _ _) .Add _ _) _ _); (with_reducible refine g_catL ?_))
  | with_reducible refine g_lst ?_
  | with_reducible refine g_dnew ?_
  | ((with_reducible refine' g_sorted (by assumption) (by assumption) ?_ ?h1 ?h2); (case h1 => rfl); (case h2 => rfl))
  | ((with_reducible refine' g_dict (by assumption) (by assumption) ?_ ?h1 ?h2); (case h1 => rfl); (case h2 => rfl)))
local macro_rules | `(tactic| walk_at "fwT") => `(tactic| first
  | with_reducible refine t_lt ?_
  | with_reducible refine t_le ?_
  | with_reducible refine t_gt ?_
  | with_reducible refine t_ge ?_
  | with_reducible refine t_notN ?_
  | with_reducible refine t_isN ?_
  | ((with_reducible refine' t_nin ?_ ?hm); (case hm => rfl))
  | ((with_reducible refine' t_in ?_ ?hm); (case hm => rfl))
  | ((with_reducible refine' t_chain2 ?_ ?hm); (case hm => with_unfolding_all rfl))
  | with_reducible refine t_isnB ?_
  | with_reducible refine t_neX (by assumption) ?_
  | with_reducible refine t_eqX (by assumption) ?_
  | with_reducible refine t_not ?_
  | with_reducible refine t_and ?_
  | with_reducible refine t_or ?_
  | with_reducible refine w_and ?_
  | with_reducible refine w_and1 ?_
  | with_reducible refine w_or ?_
  | with_reducible refine w_or1 ?_
  | ((with_reducible refine' t_val ?_ ?h); (case h => intro _; rfl)))
local macro_rules | `(tactic| walk_at "fwA") => `(tactic| first
  | ((with_reducible refine' a_cons ?_ ?hs); (case hs => rfl))
  | with_reducible refine a_nil ?_
  | ((with_reducible refine' l_own (by assumption) ?ho ?_ ?hs); (case ho => exact ⟨_, _, rfl⟩); (case hs => rfl))
  | ((with_reducible refine' l_cons ?_ ?hs); (case hs => rfl))
  | with_reducible refine l_nil ?_)
local macro_rules | `(tactic| walk_at "fwX") => `(tactic| first
  | ((with_reducible refine' exIx ?h1 ?h2 ?h3 ?_); (case h1 => rfl); (case h2 => rfl); (case h3 => rfl))
  | ((with_reducible refine' exLen (n := 2) ?h1 ?_); (case h1 => rfl))
  | ((with_reducible refine' exLen (n := 6) ?h1 ?_); (case h1 => rfl))
  | ((with_reducible refine' exLen ?h1 ?_); (case h1 => rfl))
  | ((with_reducible refine' exIsi ?h1 ?h2 ?h3 ?_); (case h1 => rfl); (case h2 => rfl); (case h3 => rfl))
  | ((with_reducible refine' exIn ?h1 ?h2 ?h3 ?_); (case h1 => rfl); (case h2 => rfl); (case h3 => rfl))
  | ((with_reducible refine' bT ?h1 ?_); (case h1 => decide))
  | ((with_reducible refine' bF ?h1 ?_); (case h1 => decide))
  | ((with_reducible refine' exIxO ?h1 ?h2 ?h3 ?_); (case h1 => rfl); (case h2 => rfl); (case h3 => rfl))
  | ((with_reducible refine' exSet ?h1 ?h2 ?h3 ?_); (case h1 => rfl); (case h2 => rfl); (case h3 => rfl); (dsimp only [List.set_cons_zero, List.set_cons_succ]))
  | ((with_reducible refine' exOwn ?h1 ?_); (case h1 => exact ⟨_, _, rfl⟩))
  | with_reducible refine ⟨_, eqOk_int, ?_⟩
  | with_reducible refine ⟨_, eqOk_str, ?_⟩
  | with_reducible refine ⟨_, eqOk_fr, ?_⟩
  | with_reducible refine ⟨_, eqOk_bl, ?_⟩
  | ((with_reducible refine' leL ?h1 ?_); (case h1 => rfl))
  | ((with_reducible show npar _ _ = true ∧ _); (refine ⟨rfl, ?_⟩); (try dsimp only [List.set_cons_zero, List.set_cons_succ, A.loc]))
  | ((with_reducible show List.Nodup _ ∧ _); first | refine ⟨.nil, ?_⟩ | refine ⟨(by dsimp only [slots]; decide), ?_⟩)
  | with_reducible refine ⟨_, rfl, ?_⟩)
/-- behind a call: what was given back -/
local macro_rules | `(tactic| walk_at "fwD") => `(tactic| dsimp only [give, lend, lend1, slots, flag, A.frz, O.frz, A.loc, List.getElem?_cons_zero, List.getElem?_cons_succ, List.set_cons_zero, List.set_cons_succ])
local macro_rules | `(tactic| walk_at "fw") => `(tactic| first
  | ((with_reducible show GoV _ _ _ _); first
    | walk_at "fwV"
    | ((with_reducible refine v_e ?_); walk_at "fwE"))
  | ((with_reducible show GoE _ _ _ _); first
    | walk_at "fwE"
    | ((with_reducible refine e_v ?_); walk_at "fwV"))
  | ((with_reducible show WT _ _ _ _); walk_at "fwT")
  | ((with_reducible show WS _ _ _ _); walk_at "fwS")
  | walk_at "fwA"
  | walk_at "fwX")

section
variable {P : Program} {w : World} {K : PySem.W.Frag} {mg : Str → Option Value} {base : Heap}
def spDivisor : FSp := fun as R _ => ∃ a b : Nat, as = [.val (.int a), .val (.int b)] ∧ R as (.val (.int (Nat.gcd a b)))
theorem g_divisor (T : Txt K mg) : GDef P w K mg base "divisor" 1 spDivisor := gdef T.d_divisor fun f fd F => by
  refine fok F sc_divisor (fun as R RX ⟨a, b, e, _⟩ => by subst e; rfl) fun g as R RX hg ⟨a, b, e, q⟩ => ?_
  subst e
  obtain ⟨v_one, v_other, w_one, w_other, l_one, l_other, ct⟩ := fx_divisor T hg
  conv => arg 2; whnf
  show GoB g _ [some (.val (.int a)), some (.val (.int b))] _
  refine b_cons (s_while ct (fun m ρ => ∃ x y : Nat, ρ = [some (.val (.int x)), some (.val (.int y))] ∧ Nat.gcd x y = Nat.gcd a b ∧ m = y) b ⟨a, b, rfl, rfl, rfl⟩ ?_)
  rintro m ρ ⟨x, y, e, hg2, hm⟩
  subst e
  walk_at "fw"
  walk_at "fw"
  walk_at "fw"
  walk_at "fw"
  refine ⟨fun h => ?_, fun h => ?_⟩
  · have hy : y ≠ 0 := by simpa using h
    refine b_cons (s_par ct w_one w_other l_one l_other ?_ (by decide) rfl (by decide) rfl rfl (by decide) (by decide) rfl)
    repeat walk_at "fw"
    refine ⟨by omega, ?_⟩
    walk_at "fw"
    refine ⟨_, _, rfl, rfl, rfl, b_nil ?_⟩
    refine ⟨x % y, hm ▸ Nat.mod_lt _ (by omega), y, x % y, by rw [← Int.natCast_emod]; rfl, by rw [← hg2, Nat.gcd_comm x y, Nat.gcd_rec y x, Nat.gcd_comm], rfl⟩
  · have hy : y = 0 := by simpa using h
    subst hy
    rw [Nat.gcd_zero_right] at hg2
    repeat walk_at "fw"
    rw [hg2]
    exact q
/-- fraction(top, bottom), bottom not 0, both below 2^8000 -/
def spFraction : FSp := fun as R _ => ∃ t b : Int, as = [.val (.int t), .val (.int b)] ∧ b ≠ 0 ∧ t.natAbs < 2 ^ 8000 ∧ b.natAbs < 2 ^ 8000 ∧ R as (.val (fr (Rat.divInt t b)))
theorem abs_eq (n : Int) : (if n < 0 then -n else n) = ((n.natAbs : Nat) : Int) := by split <;> omega
theorem cfd_by {t b : Int} (hb : b ≠ 0) (h : b.natAbs < 2 ^ 8000) (x : Int) : CFd x ((Nat.gcd t.natAbs b.natAbs : Int) * b.sign) := by
  obtain ⟨h1, h2⟩ := gcd_small (t := t) hb h
  have e : ((Nat.gcd t.natAbs b.natAbs : Int) * b.sign).natAbs = Nat.gcd t.natAbs b.natAbs := by
    rw [Int.natAbs_mul]
    rcases sign_or b hb with ⟨s, _⟩ | ⟨s, _⟩ <;> rw [s] <;> simp
  refine ⟨fun z => ?_, ?_⟩
  · rw [z] at e; simp at e; omega
  · rw [e]; exact Nat.lt_of_lt_of_le (PySem.Flt.log2_lt_of (by decide) h1) (by decide)
theorem g_fraction (T : Txt K mg) : GDef P w K mg base "fraction" 2 spFraction := gdef T.d_fraction fun f fd F => by
  refine fok F sc_fraction (fun as R RX ⟨a, b, e, _⟩ => by subst e; rfl) fun g as R RX hg ⟨t, b, e, hb, h1, h2, q⟩ => ?_
  subst e
  obtain ⟨v_top, v_bottom, v_by, w_top, w_bottom, w_by, l_top, l_bottom, l_by, b_abs, ct⟩ := fx_fraction T hg
  have c1 := ca_fraction_divisor hg (g_divisor T)
  conv => arg 2; whnf
  show GoB g _ [some (.val (.int t)), some (.val (.int b)), none] _
  repeat walk_at "fw"
  refine ⟨t.natAbs, b.natAbs, by rw [abs_eq, abs_eq]; rfl, ?_⟩
  walk_at "fwD"
  obtain ⟨gs, gp⟩ := gcd_small (t := t) hb h2
  have cm : ∀ sg : Int, sg = b.sign → CMulW ((Nat.gcd t.natAbs b.natAbs : Nat) : Int) sg := fun sg e => by
    refine wide_mul (a := 8000) (b := 1) (by rw [Int.natAbs_natCast]; exact gs) ?_ (by decide) (by decide) (by decide)
    subst e
    rcases sign_or b hb with ⟨s, _⟩ | ⟨s, _⟩ <;> rw [s] <;> decide
  have f1 := fdiv_num (t := t) hb
  have f2 := fdiv_den (t := t) hb
  have c2 := fun x => cfd_by (t := t) hb h2 x
  repeat walk_at "fw"
  refine ⟨fun h => ?_, fun h => ?_⟩
  · have s : b.sign = 1 := Int.sign_eq_one_of_pos (by simpa using h)
    rw [s] at f1 f2 c2
    repeat walk_at "fw"
    refine ⟨cm 1 s.symm, ?_⟩
    repeat walk_at "fw"
    refine ⟨c2 _, ?_⟩
    repeat walk_at "fw"
    refine ⟨c2 _, ?_⟩
    repeat walk_at "fw"
    rw [f1, f2]
    exact q
  · have s : b.sign = -1 := Int.sign_eq_neg_one_of_neg (by have := of_decide_eq_false h; omega)
    rw [s] at f1 f2 c2
    repeat walk_at "fw"
    refine ⟨cm (-1) s.symm, ?_⟩
    repeat walk_at "fw"
    refine ⟨c2 _, ?_⟩
    repeat walk_at "fw"
    refine ⟨c2 _, ?_⟩
    repeat walk_at "fw"
    rw [f1, f2]
    exact q
theorem mulW {m n : Int} {a b : Nat} (hm : m.natAbs < 2 ^ a) (hn : n.natAbs < 2 ^ b) (h : a + b ≤ 900000) : CMulW m n := by
  have e : ∀ {x : Int} {a : Nat}, x.natAbs < 2 ^ a → x.natAbs < 2 ^ (a + 1) := fun {x a} h => Nat.lt_of_lt_of_le h (Nat.pow_le_pow_right (by decide) (by omega))
  exact wide_mul (e hm) (e hn) (by omega) (by omega) (by omega)
theorem mul_lt {m n : Int} {a b c : Nat} (hm : m.natAbs < 2 ^ a) (hn : n.natAbs < 2 ^ b) (h : a + b ≤ c) : (m * n).natAbs < 2 ^ c := Nat.lt_of_lt_of_le (wide_lt hm hn) (Nat.pow_le_pow_right (by decide) h)
theorem add_lt {m n : Int} {a b : Nat} (hm : m.natAbs < 2 ^ a) (hn : n.natAbs < 2 ^ a) (h : a + 1 ≤ b) : (m + n).natAbs < 2 ^ b := by
  refine Nat.lt_of_lt_of_le ?_ (Nat.pow_le_pow_right (by decide : 0 < 2) h)
  rw [Nat.pow_succ]
  have := Int.natAbs_add_le m n
  omega
theorem sub_lt {m n : Int} {a b : Nat} (hm : m.natAbs < 2 ^ a) (hn : n.natAbs < 2 ^ a) (h : a + 1 ≤ b) : (m - n).natAbs < 2 ^ b := by
  refine Nat.lt_of_lt_of_le ?_ (Nat.pow_le_pow_right (by decide : 0 < 2) h)
  rw [Nat.pow_succ]
  have := Int.natAbs_sub_le m n
  omega
/-- two fractions below 2^3000 -/
def spTwo (f : Rat → Rat → Rat) (C : Rat → Rat → Prop) : FSp := fun as R _ => ∃ p q : Rat, as = [.val (fr p), .val (fr q)] ∧ Sz 3000 p ∧ Sz 3000 q ∧ C p q ∧ R as (.val (fr (f p q)))
theorem g_plus (T : Txt K mg) : GDef P w K mg base "plus" 3 (spTwo (· + ·) (fun _ _ => True)) := gdef T.d_plus fun f fd F => by
  refine fok F sc_plus (fun as R RX ⟨a, b, e, _⟩ => by subst e; rfl) fun g as R RX hg ⟨p, r, e, ⟨p1, p2'⟩, ⟨r1, r2'⟩, hC, q⟩ => ?_
  subst e
  obtain ⟨v_one, v_other, w_one, w_other, l_one, l_other, ct⟩ := fx_plus T hg
  have c1 := ca_plus_fraction hg (g_fraction T)
  have p2 : ((p.den : Int)).natAbs < 2 ^ 3000 := by rw [Int.natAbs_natCast]; exact p2'
  have r2 : ((r.den : Int)).natAbs < 2 ^ 3000 := by rw [Int.natAbs_natCast]; exact r2'
  have d1 : (p.den : Int) ≠ 0 := by have := p.den_nz; omega
  have d2 : (r.den : Int) ≠ 0 := by have := r.den_nz; omega
  conv => arg 2; whnf
  show GoB g _ [some (.val (fr p)), some (.val (fr r))] _
  repeat walk_at "fw"
  refine ⟨mulW p1 r2 (by decide), ?_⟩
  repeat walk_at "fw"
  refine ⟨mulW r1 p2 (by decide), ?_⟩
  repeat walk_at "fw"
  refine ⟨mulW p2 r2 (by decide), ?_⟩
  repeat walk_at "fw"
  refine ⟨_, _, rfl, Int.mul_ne_zero d1 d2, add_lt (mul_lt p1 r2 (Nat.le_refl _)) (mul_lt r1 p2 (Nat.le_refl _)) (by decide), mul_lt p2 r2 (by decide), ?_⟩
  rw [plus_eq]
  exact q

theorem g_times (T : Txt K mg) : GDef P w K mg base "times" 3 (spTwo (· * ·) (fun _ _ => True)) := gdef T.d_times fun f fd F => by
  refine fok F sc_times (fun as R RX ⟨a, b, e, _⟩ => by subst e; rfl) fun g as R RX hg ⟨p, r, e, ⟨p1, p2'⟩, ⟨r1, r2'⟩, hC, q⟩ => ?_
  subst e
  obtain ⟨v_one, v_other, w_one, w_other, l_one, l_other, ct⟩ := fx_times T hg
  have c1 := ca_times_fraction hg (g_fraction T)
  have p2 : ((p.den : Int)).natAbs < 2 ^ 3000 := by rw [Int.natAbs_natCast]; exact p2'
  have r2 : ((r.den : Int)).natAbs < 2 ^ 3000 := by rw [Int.natAbs_natCast]; exact r2'
  have d1 : (p.den : Int) ≠ 0 := by have := p.den_nz; omega
  have d2 : (r.den : Int) ≠ 0 := by have := r.den_nz; omega
  conv => arg 2; whnf
  show GoB g _ [some (.val (fr p)), some (.val (fr r))] _
  repeat walk_at "fw"
  refine ⟨mulW p1 r1 (by decide), ?_⟩
  repeat walk_at "fw"
  refine ⟨mulW p2 r2 (by decide), ?_⟩
  repeat walk_at "fw"
  refine ⟨_, _, rfl, Int.mul_ne_zero d1 d2, mul_lt p1 r1 (by decide), mul_lt p2 r2 (by decide), ?_⟩
  rw [times_eq]
  exact q

theorem g_minus (T : Txt K mg) : GDef P w K mg base "minus" 3 (spTwo (· - ·) (fun _ _ => True)) := gdef T.d_minus fun f fd F => by
  refine fok F sc_minus (fun as R RX ⟨a, b, e, _⟩ => by subst e; rfl) fun g as R RX hg ⟨p, r, e, ⟨p1, p2'⟩, ⟨r1, r2'⟩, hC, q⟩ => ?_
  subst e
  obtain ⟨v_one, v_other, w_one, w_other, l_one, l_other, ct⟩ := fx_minus T hg
  have c1 := ca_minus_fraction hg (g_fraction T)
  have p2 : ((p.den : Int)).natAbs < 2 ^ 3000 := by rw [Int.natAbs_natCast]; exact p2'
  have r2 : ((r.den : Int)).natAbs < 2 ^ 3000 := by rw [Int.natAbs_natCast]; exact r2'
  have d1 : (p.den : Int) ≠ 0 := by have := p.den_nz; omega
  have d2 : (r.den : Int) ≠ 0 := by have := r.den_nz; omega
  conv => arg 2; whnf
  show GoB g _ [some (.val (fr p)), some (.val (fr r))] _
  repeat walk_at "fw"
  refine ⟨mulW p1 r2 (by decide), ?_⟩
  repeat walk_at "fw"
  refine ⟨mulW r1 p2 (by decide), ?_⟩
  repeat walk_at "fw"
  refine ⟨mulW p2 r2 (by decide), ?_⟩
  repeat walk_at "fw"
  refine ⟨_, _, rfl, Int.mul_ne_zero d1 d2, sub_lt (mul_lt p1 r2 (Nat.le_refl _)) (mul_lt r1 p2 (Nat.le_refl _)) (by decide), mul_lt p2 r2 (by decide), ?_⟩
  rw [minus_eq]
  exact q

theorem g_shared (T : Txt K mg) : GDef P w K mg base "shared" 3 (spTwo (· / ·) (fun _ q => q ≠ 0)) := gdef T.d_shared fun f fd F => by
  refine fok F sc_shared (fun as R RX ⟨a, b, e, _⟩ => by subst e; rfl) fun g as R RX hg ⟨p, r, e, ⟨p1, p2'⟩, ⟨r1, r2'⟩, hC, q⟩ => ?_
  subst e
  obtain ⟨v_one, v_other, w_one, w_other, l_one, l_other, ct⟩ := fx_shared T hg
  have c1 := ca_shared_fraction hg (g_fraction T)
  have p2 : ((p.den : Int)).natAbs < 2 ^ 3000 := by rw [Int.natAbs_natCast]; exact p2'
  have r2 : ((r.den : Int)).natAbs < 2 ^ 3000 := by rw [Int.natAbs_natCast]; exact r2'
  have d1 : (p.den : Int) ≠ 0 := by have := p.den_nz; omega
  have d2 : (r.den : Int) ≠ 0 := by have := r.den_nz; omega
  conv => arg 2; whnf
  show GoB g _ [some (.val (fr p)), some (.val (fr r))] _
  repeat walk_at "fw"
  refine ⟨mulW p1 r2 (by decide), ?_⟩
  repeat walk_at "fw"
  refine ⟨mulW p2 r1 (by decide), ?_⟩
  repeat walk_at "fw"
  refine ⟨_, _, rfl, Int.mul_ne_zero d1 (fun z => hC (Rat.num_eq_zero.mp z)), mul_lt p1 r2 (by decide), mul_lt p2 r1 (by decide), ?_⟩
  rw [shared_eq]
  exact q

end

end KW

set_option Elab.async false
set_option linter.all false
set_option maxRecDepth 100000
set_option maxHeartbeats 4000000
namespace KW
open PySem PySem.Spec L2 FW
/-- the walk over data, a rule a step -/
local macro_rules | `(tactic| walk_at "fwS") => `(tactic| first
  | with_reducible refine b_cons ?_
  | with_reducible refine b_nil ?_
  | with_reducible refine s_if ?_
  | ((with_reducible refine' s_retO (by assumption) ?hr ?_); (case hr => with_unfolding_all rfl))
  | with_reducible refine s_ret ?_
  | ((with_reducible refine' s_par (by assumption) (by assumption) (by assumption) (by assumption) (by assumption) ?_ ?h1 ?h2 ?h3 ?h4 ?h5 ?h6 ?h7 ?h8); (case h1 => decide); (case h2 => rfl); (case h3 => decide); (case h4 => rfl); (case h5 => rfl); (case h6 => decide); (case h7 => decide); (case h8 => rfl))
  | ((with_reducible refine' s_expr ?_ ?hs); (case hs => rfl))
  | ((with_reducible show GoS _ (.Assign _ (.List _ _) _) _ _); (with_reducible refine' s_setO (by assumption) ?_ ?hs); (case hs => rfl))
  | ((with_reducible show GoS _ (.Assign [.Subscript _ _ _] _ _) _ _); (refine s_setIx (by assumption) (by with_unfolding_all rfl) ?_))
  | ((with_reducible refine' s_set (by assumption) ?_ ?hs); (case hs => with_unfolding_all rfl)))
local macro_rules | `(tactic| walk_at "fwV") => `(tactic| first
  | ((with_reducible refine' g_var (by assumption) ?hr ?_); (case hr => with_unfolding_all rfl))
  | with_reducible refine g_int ?_
  | ((with_reducible show GoV _ (.Subscript (.Name "table" _) _ _) _ _); (refine g_dix (by assumption) ?_))
  | ((with_reducible show GoV _ (.Subscript (.Call (.Name "dict" _) _ _ _) _ _) _ _); (refine g_dix (by assumption) ?_))
  | ((with_reducible refine' g_ixO (by assumption) ?ho ?_ ?hs); (case ho => with_unfolding_all rfl); (case hs => exact fun _ _ => rfl))
  | ((with_reducible refine' g_ix ?_ ?hs); (case hs => exact fun _ _ => rfl))
  | ((with_reducible show GoV _ (.BinOp (.List _ _) .Add _ _) _ _); (with_reducible refine v_e ?_); (with_reducible refine g_catL ?_))
  | ((with_reducible show GoV _ (.BinOp (.BinOp (.List _ _) .Add _ _) .Add _ _) _ _); (with_reducible refine v_e ?_); (with_reducible refine g_catL ?_))
  | with_reducible refine g_catT (b := .Tuple _ _ _) ?_
  | with_reducible refine g_add ?_
  | with_reducible refine g_mul ?_
  | with_reducible refine g_sub ?_
  | with_reducible refine g_tup ?_
  | ((with_reducible refine' g_lenSet (by assumption) (by assumption) (by assumption) ?_ ?h1); (case h1 => rfl))
  | ((with_reducible refine' g_lenO (by assumption) (by assumption) ?ho ?_ ?h1 ?h2 ?h3); (case ho => with_unfolding_all rfl); (case h1 => rfl); (case h2 => rfl); (case h3 => rfl))
  | ((with_reducible refine' g_len (by assumption) ?_ ?h1 ?h2); (case h1 => rfl); (case h2 => rfl))
  | with_reducible refine g_str ?_
  | with_reducible refine g_bl ?_
  | with_reducible refine g_non ?_
  | with_reducible refine g_glob (by assumption) ?_
  | with_reducible refine g_bltn (by assumption) ?_
  | with_reducible refine g_mod ?_
  | ((with_reducible refine' g_append (by assumption) ?ho ?_ ?h1 ?h2 ?h3); (case ho => with_unfolding_all rfl); (case h1 => exact ⟨rfl, rfl, rfl⟩); (case h2 => rfl); (case h3 => rfl))
  | ((with_reducible refine' g_popAt (by assumption) ?ho ?_ ?h1 ?h2 ?h3); (case ho => with_unfolding_all rfl); (case h1 => exact ⟨rfl, rfl, rfl⟩); (case h2 => rfl); (case h3 => rfl))
  | with_reducible refine g_fdiv ?_
  | with_reducible refine g_pow ?_
  | with_reducible refine g_neg ?_
  | ((with_reducible refine' g_abs (by assumption) ?_ ?h1 ?h2); (case h1 => rfl); (case h2 => rfl))
  | ((with_reducible refine' g_all ?hc (by assumption) ?_ ?h1 ?h2); (case hc => exact Ct.calm (by assumption)); (case h1 => rfl); (case h2 => rfl))
  | ((with_reducible refine' g_chain2 ?_ ?hm); (case hm => with_unfolding_all rfl))
  | ((with_reducible refine' g_get2 (by assumption) ?_ ?hm); (case hm => exact ⟨rfl, rfl, rfl, rfl⟩))
  | ((with_reducible refine' g_slT ?_))
  | with_reducible refine g_eqX (by assumption) ?_
  | with_reducible refine g_neX (by assumption) ?_
  | with_reducible refine g_isN ?_
  | ((with_reducible refine' g_isi (T := "") (C := "") (by assumption) ?_ ?h1 ?h2 ?h3); (case h1 => rfl); (case h2 => rfl); (case h3 => rfl))
  | with_reducible refine g_ifx ?_
  | with_reducible refine g_lt ?_
  | with_reducible refine g_le ?_
  | with_reducible refine g_gt ?_
  | with_reducible refine g_and ?_
  | with_reducible refine g_or ?_
  | with_reducible refine g_one ?_
  | with_reducible refine g_not ?_)
local macro_rules | `(tactic| walk_at "fwE") => `(tactic| first
  | ((with_reducible refine' g_call (by assumption) ?_ ?h1 ?h2); (case h1 => rfl); (case h2 => rfl))
  | ((with_reducible show GoE _ (.BinOp (.List _ _) .Add _ _) _ _); (with_reducible refine g_catL ?_))
  | ((with_reducible show GoE _ (.BinOp (.BinOp (.List _ _) .Add _ _) .Add _ _) _ _); (with_reducible refine g_catL ?_))
  | with_reducible refine g_lst ?_
  | with_reducible refine g_dnew ?_
  | ((with_reducible refine' g_sorted (by assumption) (by assumption) ?_ ?h1 ?h2); (case h1 => rfl); (case h2 => rfl))
  | ((with_reducible refine' g_dict (by assumption) (by assumption) ?_ ?h1 ?h2); (case h1 => rfl); (case h2 => rfl)))
local macro_rules | `(tactic| walk_at "fwT") => `(tactic| first
  | with_reducible refine t_lt ?_
  | with_reducible refine t_le ?_
  | with_reducible refine t_gt ?_
  | with_reducible refine t_ge ?_
  | with_reducible refine t_notN ?_
  | with_reducible refine t_isN ?_
  | ((with_reducible refine' t_nin ?_ ?hm); (case hm => rfl))
  | ((with_reducible refine' t_in ?_ ?hm); (case hm => rfl))
  | ((with_reducible refine' t_chain2 ?_ ?hm); (case hm => with_unfolding_all rfl))
  | with_reducible refine t_isnB ?_
  | with_reducible refine t_neX (by assumption) ?_
  | with_reducible refine t_eqX (by assumption) ?_
  | with_reducible refine t_not ?_
  | with_reducible refine t_and ?_
  | with_reducible refine t_or ?_
  | with_reducible refine w_and ?_
  | with_reducible refine w_and1 ?_
  | with_reducible refine w_or ?_
  | with_reducible refine w_or1 ?_
  | ((with_reducible refine' t_val ?_ ?h); (case h => intro _; rfl)))
local macro_rules | `(tactic| walk_at "fwA") => `(tactic| first
  | ((with_reducible refine' a_cons ?_ ?hs); (case hs => rfl))
  | with_reducible refine a_nil ?_
  | ((with_reducible refine' l_own (by assumption) ?ho ?_ ?hs); (case ho => exact ⟨_, _, rfl⟩); (case hs => rfl))
  | ((with_reducible refine' l_cons ?_ ?hs); (case hs => rfl))
  | with_reducible refine l_nil ?_)
local macro_rules | `(tactic| walk_at "fwX") => `(tactic| first
  | ((with_reducible refine' exIx ?h1 ?h2 ?h3 ?_); (case h1 => rfl); (case h2 => rfl); (case h3 => rfl))
  | ((with_reducible refine' exLen (n := 2) ?h1 ?_); (case h1 => rfl))
  | ((with_reducible refine' exLen (n := 6) ?h1 ?_); (case h1 => rfl))
  | ((with_reducible refine' exLen ?h1 ?_); (case h1 => rfl))
  | ((with_reducible refine' exIsi ?h1 ?h2 ?h3 ?_); (case h1 => rfl); (case h2 => rfl); (case h3 => rfl))
  | ((with_reducible refine' exIn ?h1 ?h2 ?h3 ?_); (case h1 => rfl); (case h2 => rfl); (case h3 => rfl))
  | ((with_reducible refine' bT ?h1 ?_); (case h1 => decide))
  | ((with_reducible refine' bF ?h1 ?_); (case h1 => decide))
  | ((with_reducible refine' exIxO ?h1 ?h2 ?h3 ?_); (case h1 => rfl); (case h2 => rfl); (case h3 => rfl))
  | ((with_reducible refine' exSet ?h1 ?h2 ?h3 ?_); (case h1 => rfl); (case h2 => rfl); (case h3 => rfl); (dsimp only [List.set_cons_zero, List.set_cons_succ]))
  | ((with_reducible refine' exOwn ?h1 ?_); (case h1 => exact ⟨_, _, rfl⟩))
  | with_reducible refine ⟨_, eqOk_int, ?_⟩
  | with_reducible refine ⟨_, eqOk_str, ?_⟩
  | with_reducible refine ⟨_, eqOk_fr, ?_⟩
  | with_reducible refine ⟨_, eqOk_bl, ?_⟩
  | ((with_reducible refine' leL ?h1 ?_); (case h1 => rfl))
  | ((with_reducible show npar _ _ = true ∧ _); (refine ⟨rfl, ?_⟩); (try dsimp only [List.set_cons_zero, List.set_cons_succ, A.loc]))
  | ((with_reducible show List.Nodup _ ∧ _); first | refine ⟨.nil, ?_⟩ | refine ⟨(by dsimp only [slots]; decide), ?_⟩)
  | with_reducible refine ⟨_, rfl, ?_⟩)
/-- behind a call: what was given back -/
local macro_rules | `(tactic| walk_at "fwD") => `(tactic| dsimp only [give, lend, lend1, slots, flag, A.frz, O.frz, A.loc, List.getElem?_cons_zero, List.getElem?_cons_succ, List.set_cons_zero, List.set_cons_succ])
local macro_rules | `(tactic| walk_at "fw") => `(tactic| first
  | ((with_reducible show GoV _ _ _ _); first
    | walk_at "fwV"
    | ((with_reducible refine v_e ?_); walk_at "fwE"))
  | ((with_reducible show GoE _ _ _ _); first
    | walk_at "fwE"
    | ((with_reducible refine e_v ?_); walk_at "fwV"))
  | ((with_reducible show WT _ _ _ _); walk_at "fwT")
  | ((with_reducible show WS _ _ _ _); walk_at "fwS")
  | walk_at "fwA"
  | walk_at "fwX")

section
variable {P : Program} {w : World} {K : PySem.W.Frag} {mg : Str → Option Value} {base : Heap}
def spWhole : FSp := fun as R _ => ∃ x lo hi : Int, as = [.val (.int x), .val (.int lo), .val (.int hi)] ∧ R as (.val (.bl (decide (lo ≤ x ∧ x ≤ hi))))
theorem g_is_whole (T : Txt K mg) : GDef P w K mg base "is_whole" 1 spWhole := gdef T.d_is_whole fun f fd F => by
  refine fok F sc_is_whole (fun as R RX ⟨x, lo, hi, e, _⟩ => by subst e; rfl) fun g as R RX hg ⟨x, lo, hi, e, q⟩ => ?_
  subst e
  obtain ⟨v_thing, v_low, v_high, w_thing, w_low, w_high, l_thing, l_low, l_high, b_isinstance, b_int, b_bool, ct⟩ := fx_is_whole T hg
  conv => arg 2; whnf
  show GoB g _ [some (.val (.int x)), some (.val (.int lo)), some (.val (.int hi))] _
  repeat walk_at "fw"
  refine ⟨lo, x, rfl, rfl, fun h => ?_, fun h => ?_⟩
  · repeat walk_at "fw"
    rw [show decide (lo ≤ x ∧ x ≤ hi) = decide (x ≤ hi) by simp [h]] at q
    exact q
  · rw [show decide (lo ≤ x ∧ x ≤ hi) = false by simp [h]] at q
    exact q
def spName : FSp := fun as R _ => ∃ s : Str, as = [.val (.str s)] ∧ NmOk s ∧ R as (.val (.bl true))
theorem g_is_name (T : Txt K mg) : GDef P w K mg base "is_name" 1 spName := gdef T.d_is_name fun f fd F => by
  refine fok F sc_is_name (fun as R RX ⟨x, e, _⟩ => by subst e; rfl) fun g as R RX hg ⟨s, e, ok, q⟩ => ?_
  subst e
  obtain ⟨v_thing, w_thing, l_thing, b_isinstance, b_str, b_len, b_all, ct⟩ := fx_is_name T hg
  conv => arg 2; whnf
  show GoB g _ [some (.val (.str s)), none] _
  have hlen : lenD (.str s) = some s.length := by
    have := ok.hi
    simp only [lenD]
    rw [if_pos (by omega)]
  repeat walk_at "fw"
  refine ⟨_, hlen, ?_⟩
  refine ⟨1, _, rfl, rfl, fun h => ?_, fun h => absurd (by have := ok.lo; omega) h⟩
  repeat walk_at "fw"
  refine ⟨fun _ => ?_, fun h => absurd (by simp; have := ok.hi; omega) (ne_true_of_eq_false h)⟩
  repeat walk_at "fw"
  refine v_e (g_lc hg (own := [("sign", 1)]) (by decide +kernel) (pgb_name (i := 1) hg rfl rfl) (by decide) (i_str ?_))
  repeat walk_at "fw"
  have hlo : s.cps.size ≤ 8 := ok.hi
  refine ⟨by simp [signs]; omega, loopC_go (fun _ => [.bl true]) rfl _ _ (by simp [signs]; omega) (fun d hd => ?_) ?_⟩
  · obtain ⟨c, hc, rfl⟩ := List.mem_map.mp hd
    refine gv_name rfl (.head _) fun X' bX => ⟨fun _ X'' bX => ?_, fun h => absurd h (by decide)⟩
    have hb := hg.blk bX rfl
    have v_sign := hb.v (l := [("sign", 1)]) (by decide +kernel) (.head _)
    have n_LETTERS := hb.glo (l := ["LETTERS"]) (by decide +kernel) T.n_LETTERS (.head _)
    refine g_inSign ?_
    repeat walk_at "fw"
    refine ⟨c, _, rfl, rfl, rfl, rfl, ?_⟩
    rw [decide_eq_true]
    exact ok.sg c hc
  · walk_at "fwD"
    refine ⟨(signs s).map fun _ => true, ?_, ?_⟩
    · rw [List.nil_append, fm_map, List.map_map]; rfl
    · rw [List.all_map, show (List.all (signs s) (id ∘ fun _ => true)) = true by simp]
      exact q
/-- the hanging and the number are fit: at most n weights -/
def spShaped (n : Nat) : FSp := fun as R _ => ∃ (h : Hg) (m : Int), as = [.val h.d, .val (.int m)] ∧ h.Ok ∧ h.nw ≤ n ∧ n ≤ 8 ∧ (h.nw : Int) ≤ m ∧ R as (.val (.bl true))
def spThings (n : Nat) : FSp := fun as R _ => ∃ h : Hg, as = [.val h.d] ∧ h.nw ≤ n ∧ n ≤ 8 ∧ R as (.own false (.lst (h.things.map Hg.d)))
theorem no_hg {h : Hg} {n : Nat} (e : h.nw ≤ 0) : False := by have := h.nw_pos; omega
theorem g_things_of (T : Txt K mg) : ∀ n : Nat, GDef P w K mg base "things_of" (n + 1) (spThings n)
  | 0 => gdef T.d_things_of fun f fd F => fok F sc_things_of (fun as R RX ⟨h, e, hn, _⟩ => (no_hg (n := 0) hn).elim) fun g as R RX hg ⟨h, e, hn, _⟩ => (no_hg (n := 0) hn).elim
  | n + 1 => gdef T.d_things_of fun f fd F => by
    refine fok F sc_things_of (fun as R RX ⟨h, e, _⟩ => by subst e; rfl) fun g as R RX hg ⟨h, e, hn, hn8, q⟩ => ?_
    subst e
    obtain ⟨v_hanging, w_hanging, l_hanging, b_len, ct⟩ := fx_things_of T hg
    have c := ca_things_of_things_of hg (g_things_of T n) (Nat.le_refl _)
    conv => arg 2; whnf
    show GoB g _ [some (.val h.d)] _
    cases h with
    | wt nm hv =>
      change GoB g _ [some (.val (.tup [.str nm, .int hv]))] _
      repeat walk_at "fw"
      exact q
    | pu nm own l a r b =>
      have e : (Hg.pu nm own l a r b).nw = l.nw + r.nw := rfl
      have hl := l.nw_pos
      have hr := r.nw_pos
      have ll := l.things_len
      have lr := r.things_len
      change GoB g _ [some (.val (.tup [.str nm, .int own, l.d, .int a, r.d, .int b]))] _
      repeat walk_at "fw"
      refine ⟨l, rfl, by omega, by omega, ?_⟩
      walk_at "fwD"
      refine ⟨_, _, rfl, rfl, by simp; omega, ?_⟩
      repeat walk_at "fw"
      refine ⟨r, rfl, by omega, by omega, ?_⟩
      walk_at "fwD"
      refine ⟨_, _, rfl, rfl, by simp; omega, ?_⟩
      rw [show [D.tup [.str nm, .int own, l.d, .int a, r.d, .int b]] ++ l.things.map Hg.d ++ r.things.map Hg.d = (Hg.pu nm own l a r b).things.map Hg.d by simp [Hg.things, Hg.d]]
      exact q
theorem hg_len (h : Hg) : lenD h.d = some (if h.isW then 2 else 6) := by cases h <;> rfl
def spWeights (n : Nat) : FSp := fun as R _ => ∃ h : Hg, as = [.val h.d] ∧ h.nw ≤ n ∧ n ≤ 8 ∧ R as (.own false (.lst ((h.things.filter Hg.isW).map Hg.d)))
theorem g_weights_of (T : Txt K mg) (n : Nat) : GDef P w K mg base "weights_of" (n + 2) (spWeights n) := gdef T.d_weights_of fun f fd F => by
  refine fok F sc_weights_of (fun as R RX ⟨h, e, _⟩ => by subst e; rfl) fun g as R RX hg ⟨h, e, hn, hn8, q⟩ => ?_
  subst e
  obtain ⟨v_hanging, w_hanging, l_hanging, ct⟩ := fx_weights_of T hg
  have c := ca_weights_of_things_of hg (g_things_of T n) (Nat.le_refl _)
  conv => arg 2; whnf
  show GoB g _ [some (.val h.d), none] _
  have ll := h.things_len
  walk_at "fw"
  walk_at "fw"
  refine g_lc hg (own := [("one", 1)]) (by decide +kernel) (pgb_name (i := 1) hg rfl rfl) (by decide) (i_list ?_)
  repeat walk_at "fw"
  refine ⟨h, rfl, by omega, by omega, ?_⟩
  walk_at "fwD"
  refine ⟨_, rfl, by simp; omega, loopC_on Hg.d (fun x => if x.isW = true then [x.d] else []) rfl _ _ (by simp; omega) (fun c hc => ?_) ?_⟩
  · refine gv_name rfl (.head _) fun X' bX => ?_
    have hb := hg.blk bX rfl
    have v_one := hb.v (l := [("one", 1)]) (by decide +kernel) (.head _)
    have b_len := hb.blt (l := ["len"]) (by decide +kernel) T.b_len boot_len (.head _)
    have ct' := hb.ct
    show GoT _ _ _ _
    repeat walk_at "fw"
    refine ⟨_, hg_len c, ?_⟩
    repeat walk_at "fw"
    refine ⟨fun z X'' bX => ?_, fun z => ?_⟩
    · have hb := hg.blk bX rfl
      have v_one := hb.v (l := [("one", 1)]) (by decide +kernel) (.head _)
      repeat walk_at "fw"
      refine ⟨rfl, rfl, ?_⟩
      cases c <;> simp [Hg.isW] at z ⊢
    · refine ⟨rfl, rfl, ?_⟩
      cases c <;> simp [Hg.isW] at z ⊢
  · rw [List.nil_append, fm_filter]
    exact q
theorem hg_nm (h : Hg) : ∃ r, h.d = .tup (.str h.nm :: r) := by cases h <;> exact ⟨_, rfl⟩
theorem g_is_shaped (T : Txt K mg) : ∀ n : Nat, GDef P w K mg base "is_shaped" (n + 12) (spShaped n)
  | 0 => gdef T.d_is_shaped fun f fd F => fok F sc_is_shaped (fun as R RX ⟨h, m, e, _, hn, _⟩ => (no_hg (n := 0) hn).elim) fun g as R RX hg ⟨h, m, e, _, hn, _⟩ => (no_hg (n := 0) hn).elim
  | n + 1 => gdef T.d_is_shaped fun f fd F => by
    refine fok F sc_is_shaped (fun as R RX ⟨h, m, e, _⟩ => by subst e; rfl) fun g as R RX hg ⟨h, m, e, ok, hn, hn8, hm, q⟩ => ?_
    subst e
    obtain ⟨v_thing, v_many, w_thing, w_many, l_thing, l_many, b_isinstance, b_tuple, b_len, n_MOST, ct⟩ := fx_is_shaped T hg
    have c1 := ca_is_shaped_is_name hg (g_is_name T) (by omega)
    have c2 := ca_is_shaped_is_whole hg (g_is_whole T) (by omega)
    have c3 := ca_is_shaped_is_shaped hg (g_is_shaped T n) (by omega)
    have c4 := ca_is_shaped_weights_of hg (g_weights_of T n) (by omega)
    conv => arg 2; whnf
    show GoB g _ [some (.val h.d), some (.val (.int m))] _
    cases h with
    | wt nm hv =>
      obtain ⟨o1, o2, o3⟩ := ok
      change GoB g _ [some (.val (.tup [.str nm, .int hv])), some (.val (.int m))] _
      repeat walk_at "fw"
      refine ⟨nm, rfl, o1, ?_⟩
      walk_at "fwD"
      repeat walk_at "fw"
      have z1 : (1 : Int) ≤ m := hm
      refine bF (decide_eq_false (by omega)) ?_
      repeat walk_at "fw"
      refine ⟨hv, 1, 1000, rfl, ?_⟩
      walk_at "fwD"
      rw [decide_eq_true ⟨o2, o3⟩]
      exact q
    | pu nm own l a r b =>
      obtain ⟨o1, o2, o2', o3, o4, o4', o5, o6, o6'⟩ := ok
      have e : (Hg.pu nm own l a r b).nw = l.nw + r.nw := rfl
      have hl := l.nw_pos
      have hr := r.nw_pos
      have lw := l.weights_len
      change GoB g _ [some (.val (.tup [.str nm, .int own, l.d, .int a, r.d, .int b])), some (.val (.int m))] _
      repeat walk_at "fw"
      refine ⟨nm, rfl, o1, ?_⟩
      walk_at "fwD"
      repeat walk_at "fw"
      refine bF (decide_eq_false (by omega)) ?_
      repeat walk_at "fw"
      refine ⟨own, 0, 1000, rfl, ?_⟩
      walk_at "fwD"
      rw [decide_eq_true ⟨o2, o2'⟩]
      repeat walk_at "fw"
      refine ⟨a, 1, 1000, rfl, ?_⟩
      walk_at "fwD"
      rw [decide_eq_true ⟨o4, o4'⟩]
      repeat walk_at "fw"
      refine ⟨b, 1, 1000, rfl, ?_⟩
      walk_at "fwD"
      rw [decide_eq_true ⟨o6, o6'⟩]
      repeat walk_at "fw"
      refine ⟨l, _, rfl, o3, by omega, by omega, by omega, ?_⟩
      walk_at "fwD"
      repeat walk_at "fw"
      refine ⟨l, rfl, by omega, by omega, ?_⟩
      walk_at "fwD"
      repeat walk_at "fw"
      refine ⟨r, _, rfl, o5, by omega, by omega, by simp; omega, ?_⟩
      walk_at "fwD"
      exact q
def spGood : FSp := fun as R _ => ∃ h : Hg, as = [.val h.d] ∧ h.Good ∧ R as (.val (.bl true))
theorem g_is_hanging (T : Txt K mg) : GDef P w K mg base "is_hanging" 21 spGood := gdef T.d_is_hanging fun f fd F => by
  refine fok F sc_is_hanging (fun as R RX ⟨h, e, _⟩ => by subst e; rfl) fun g as R RX hg ⟨h, e, ok, q⟩ => ?_
  subst e
  obtain ⟨v_thing, v_names, w_thing, w_names, l_thing, l_names, n_MOST_WEIGHTS, b_len, b_set, ct⟩ := fx_is_hanging T hg
  have c1 := ca_is_hanging_is_shaped hg (g_is_shaped T 8) (by omega)
  have c2 := ca_is_hanging_things_of hg (g_things_of T 8) (by omega)
  have h8 := ok.nw
  have ll := h.things_len
  conv => arg 2; whnf
  show GoB g _ [some (.val h.d), none, none] _
  repeat walk_at "fw"
  refine ⟨h, 8, rfl, ok.ok, ok.nw, by omega, by omega, ?_⟩
  walk_at "fwD"
  repeat walk_at "fw"
  refine s_lc hg w_names l_names (own := [("one", 2)]) (by decide +kernel) (pgb_name (i := 2) hg rfl rfl) (by decide) (i_list ?_) (by decide) (by decide +kernel)
  repeat walk_at "fw"
  refine ⟨h, rfl, by omega, by omega, ?_⟩
  walk_at "fwD"
  refine ⟨_, rfl, by simp; omega, loopC_on Hg.d (fun x => [.str x.nm]) rfl _ _ (by simp; omega) (fun c hc => ?_) ?_⟩
  · refine gv_name rfl (.head _) fun X' bX => ⟨fun _ X'' bX => ?_, fun h => absurd h (by decide)⟩
    have hb := hg.blk bX rfl
    have v_one := hb.v (l := [("one", 2)]) (by decide +kernel) (.head _)
    cases c with
    | wt =>
      repeat walk_at "fw"
      exact ⟨rfl, rfl, rfl⟩
    | pu =>
      repeat walk_at "fw"
      exact ⟨rfl, rfl, rfl⟩
  · rw [List.nil_append, fm_map]
    refine ⟨rfl, ?_⟩
    walk_at "fw"
    walk_at "fw"
    refine e_v (g_peek (i := 1) rfl ?_)
    repeat walk_at "fw"
    refine ⟨h.names, by simp [Hg.names, O.frz], by simp [Hg.names]; omega, ?_⟩
    repeat walk_at "fw"
    refine ⟨rfl, ?_⟩
    rw [show decide (((uniq h.names).length : Int) = ((h.things.map fun x => D.str x.nm).length : Nat)) = true by
      have e := (uniq_nd _).mpr ok.nd
      have e2 : h.names.length = h.things.length := List.length_map _
      rw [List.length_map, e, e2]
      exact decide_eq_true rfl]
    exact q
def spNeed : FSp := fun as R _ => ∃ h : Hg, as = [.val h.d] ∧ h.Good ∧ R as (.val .non)
theorem g_need_hanging (T : Txt K mg) : GDef P w K mg base "need_hanging" 22 spNeed := gdef T.d_need_hanging fun f fd F => by
  refine fok F sc_need_hanging (fun as R RX ⟨h, e, _⟩ => by subst e; rfl) fun g as R RX hg ⟨h, e, ok, q⟩ => ?_
  subst e
  obtain ⟨v_hanging, w_hanging, l_hanging, ct⟩ := fx_need_hanging T hg
  have c1 := ca_need_hanging_is_hanging hg (g_is_hanging T) (by omega)
  conv => arg 2; whnf
  show GoB g _ [some (.val h.d)] _
  repeat walk_at "fw"
  refine ⟨h, rfl, ok, ?_⟩
  walk_at "fwD"
  repeat walk_at "fw"
  exact q
def spBoth : FSp := fun as R _ => ∃ (own : Int) (p q : Rat) (a b : Nat), as = [.val (.int own), .val (fr p), .val (fr q)] ∧ 0 ≤ own ∧ own ≤ 1000 ∧ 0 < p ∧ 0 < q ∧ Sz a p ∧ Sz b q ∧ a + b ≤ 1000 ∧ R as (.val (fr ((own : Rat) + 4 * (p * q) / (p + q))))
theorem g_both_felt (T : Txt K mg) : GDef P w K mg base "both_felt" 4 spBoth := gdef T.d_both_felt fun f fd F => by
  refine fok F sc_both_felt (fun as R RX ⟨_, _, _, _, _, e, _⟩ => by subst e; rfl) fun g as R RX hg ⟨own, p, r, a, b, e, o1, o2, p0, r0, sp, sr, hab, q⟩ => ?_
  subst e
  obtain ⟨v_own, v_one, v_other, w_own, w_one, w_other, l_own, l_one, l_other, ct⟩ := fx_both_felt T hg
  have c1 := ca_both_felt_plus hg (g_plus T) (by omega)
  have c2 := ca_both_felt_shared hg (g_shared T) (by omega)
  have c3 := ca_both_felt_times hg (g_times T) (by omega)
  conv => arg 2; whnf
  show GoB g _ [some (.val (.int own)), some (.val (fr p)), some (.val (fr r))] _
  have s4 : Sz 3 (4 : Rat) := sz_int (n := 4) (by decide) (by decide)
  have s10 : Sz 10 (own : Rat) := sz_int (by have : (2 : Nat) ^ 10 = 1024 := by decide
                                             omega) (by decide)
  have sm := sp.mul sr (Nat.le_refl _)
  have sa := sp.add sr (Nat.le_refl _)
  have n0 : p + r ≠ 0 := by grind
  repeat walk_at "fw"
  refine ⟨p, r, rfl, sp.mono (by omega), sr.mono (by omega), trivial, ?_⟩
  walk_at "fwD"
  repeat walk_at "fw"
  refine ⟨4, _, rfl, s4.mono (by omega), sm.mono (by omega), trivial, ?_⟩
  walk_at "fwD"
  repeat walk_at "fw"
  refine ⟨p, r, rfl, sp.mono (by omega), sr.mono (by omega), trivial, ?_⟩
  walk_at "fwD"
  repeat walk_at "fw"
  refine ⟨_, _, rfl, (s4.mul sm (Nat.le_refl _)).mono (by omega), sa.mono (by omega), n0, ?_⟩
  walk_at "fwD"
  repeat walk_at "fw"
  refine ⟨(own : Rat), _, rfl, s10.mono (by omega), ((s4.mul sm (Nat.le_refl _)).div sa n0 (Nat.le_refl _)).mono (by omega), trivial, ?_⟩
  exact q
end

end KW

set_option Elab.async false
set_option linter.all false
set_option maxRecDepth 100000
set_option maxHeartbeats 4000000
namespace KW
open PySem PySem.Spec L2 FW
/-- the walk over data, a rule a step -/
local macro_rules | `(tactic| walk_at "fwS") => `(tactic| first
  | with_reducible refine b_cons ?_
  | with_reducible refine b_nil ?_
  | with_reducible refine s_if ?_
  | ((with_reducible refine' s_retO (by assumption) ?hr ?_); (case hr => with_unfolding_all rfl))
  | with_reducible refine s_ret ?_
  | ((with_reducible refine' s_par (by assumption) (by assumption) (by assumption) (by assumption) (by assumption) ?_ ?h1 ?h2 ?h3 ?h4 ?h5 ?h6 ?h7 ?h8); (case h1 => decide); (case h2 => rfl); (case h3 => decide); (case h4 => rfl); (case h5 => rfl); (case h6 => decide); (case h7 => decide); (case h8 => rfl))
  | ((with_reducible refine' s_expr ?_ ?hs); (case hs => rfl))
  | ((with_reducible show GoS _ (.Assign _ (.List _ _) _) _ _); (with_reducible refine' s_setO (by assumption) ?_ ?hs); (case hs => rfl))
  | ((with_reducible show GoS _ (.Assign [.Subscript _ _ _] _ _) _ _); (refine s_setIx (by assumption) (by with_unfolding_all rfl) ?_))
  | ((with_reducible refine' s_set (by assumption) ?_ ?hs); (case hs => with_unfolding_all rfl)))
local macro_rules | `(tactic| walk_at "fwV") => `(tactic| first
  | ((with_reducible refine' g_var (by assumption) ?hr ?_); (case hr => with_unfolding_all rfl))
  | with_reducible refine g_int ?_
  | ((with_reducible show GoV _ (.Subscript (.Name "table" _) _ _) _ _); (refine g_dix (by assumption) ?_))
  | ((with_reducible show GoV _ (.Subscript (.Call (.Name "dict" _) _ _ _) _ _) _ _); (refine g_dix (by assumption) ?_))
  | ((with_reducible refine' g_ixO (by assumption) ?ho ?_ ?hs); (case ho => with_unfolding_all rfl); (case hs => exact fun _ _ => rfl))
  | ((with_reducible refine' g_ix ?_ ?hs); (case hs => exact fun _ _ => rfl))
  | ((with_reducible show GoV _ (.BinOp (.List _ _) .Add _ _) _ _); (with_reducible refine v_e ?_); (with_reducible refine g_catL ?_))
  | ((with_reducible show GoV _ (.BinOp (.BinOp (.List _ _) .Add _ _) .Add _ _) _ _); (with_reducible refine v_e ?_); (with_reducible refine g_catL ?_))
  | with_reducible refine g_catT (b := .Tuple _ _ _) ?_
  | with_reducible refine g_add ?_
  | with_reducible refine g_mul ?_
  | with_reducible refine g_sub ?_
  | with_reducible refine g_tup ?_
  | ((with_reducible refine' g_lenSet (by assumption) (by assumption) (by assumption) ?_ ?h1); (case h1 => rfl))
  | ((with_reducible refine' g_lenO (by assumption) (by assumption) ?ho ?_ ?h1 ?h2 ?h3); (case ho => with_unfolding_all rfl); (case h1 => rfl); (case h2 => rfl); (case h3 => rfl))
  | ((with_reducible refine' g_len (by assumption) ?_ ?h1 ?h2); (case h1 => rfl); (case h2 => rfl))
  | with_reducible refine g_str ?_
  | with_reducible refine g_bl ?_
  | with_reducible refine g_non ?_
  | with_reducible refine g_glob (by assumption) ?_
  | with_reducible refine g_bltn (by assumption) ?_
  | with_reducible refine g_mod ?_
  | ((with_reducible refine' g_append (by assumption) ?ho ?_ ?h1 ?h2 ?h3); (case ho => with_unfolding_all rfl); (case h1 => exact ⟨rfl, rfl, rfl⟩); (case h2 => rfl); (case h3 => rfl))
  | ((with_reducible refine' g_popAt (by assumption) ?ho ?_ ?h1 ?h2 ?h3); (case ho => with_unfolding_all rfl); (case h1 => exact ⟨rfl, rfl, rfl⟩); (case h2 => rfl); (case h3 => rfl))
  | with_reducible refine g_fdiv ?_
  | with_reducible refine g_pow ?_
  | with_reducible refine g_neg ?_
  | ((with_reducible refine' g_abs (by assumption) ?_ ?h1 ?h2); (case h1 => rfl); (case h2 => rfl))
  | ((with_reducible refine' g_all ?hc (by assumption) ?_ ?h1 ?h2); (case hc => exact Ct.calm (by assumption)); (case h1 => rfl); (case h2 => rfl))
  | ((with_reducible refine' g_chain2 ?_ ?hm); (case hm => with_unfolding_all rfl))
  | ((with_reducible refine' g_get2 (by assumption) ?_ ?hm); (case hm => exact ⟨rfl, rfl, rfl, rfl⟩))
  | ((with_reducible refine' g_slT ?_))
  | with_reducible refine g_eqX (by assumption) ?_
  | with_reducible refine g_neX (by assumption) ?_
  | with_reducible refine g_isN ?_
  | ((with_reducible refine' g_isi (T := "") (C := "") (by assumption) ?_ ?h1 ?h2 ?h3); (case h1 => rfl); (case h2 => rfl); (case h3 => rfl))
  | with_reducible refine g_ifx ?_
  | with_reducible refine g_lt ?_
  | with_reducible refine g_le ?_
  | with_reducible refine g_gt ?_
  | with_reducible refine g_and ?_
  | with_reducible refine g_or ?_
  | with_reducible refine g_one ?_
  | with_reducible refine g_not ?_)
local macro_rules | `(tactic| walk_at "fwE") => `(tactic| first
  | ((with_reducible refine' g_call (by assumption) ?_ ?h1 ?h2); (case h1 => rfl); (case h2 => rfl))
  | ((with_reducible show GoE _ (.BinOp (.List _ _) .Add _ _) _ _); (with_reducible refine g_catL ?_))
  | ((with_reducible show GoE _ (.BinOp (.BinOp (.List _ _) .Add _ _) .Add _ _) _ _); (with_reducible refine g_catL ?_))
  | with_reducible refine g_lst ?_
  | with_reducible refine g_dnew ?_
  | ((with_reducible refine' g_sorted (by assumption) (by assumption) ?_ ?h1 ?h2); (case h1 => rfl); (case h2 => rfl))
  | ((with_reducible refine' g_dict (by assumption) (by assumption) ?_ ?h1 ?h2); (case h1 => rfl); (case h2 => rfl)))
local macro_rules | `(tactic| walk_at "fwT") => `(tactic| first
  | with_reducible refine t_lt ?_
  | with_reducible refine t_le ?_
  | with_reducible refine t_gt ?_
  | with_reducible refine t_ge ?_
  | with_reducible refine t_notN ?_
  | with_reducible refine t_isN ?_
  | ((with_reducible refine' t_nin ?_ ?hm); (case hm => rfl))
  | ((with_reducible refine' t_in ?_ ?hm); (case hm => rfl))
  | ((with_reducible refine' t_chain2 ?_ ?hm); (case hm => with_unfolding_all rfl))
  | with_reducible refine t_isnB ?_
  | with_reducible refine t_neX (by assumption) ?_
  | with_reducible refine t_eqX (by assumption) ?_
  | with_reducible refine t_not ?_
  | with_reducible refine t_and ?_
  | with_reducible refine t_or ?_
  | with_reducible refine w_and ?_
  | with_reducible refine w_and1 ?_
  | with_reducible refine w_or ?_
  | with_reducible refine w_or1 ?_
  | ((with_reducible refine' t_val ?_ ?h); (case h => intro _; rfl)))
local macro_rules | `(tactic| walk_at "fwA") => `(tactic| first
  | ((with_reducible refine' a_cons ?_ ?hs); (case hs => rfl))
  | with_reducible refine a_nil ?_
  | ((with_reducible refine' l_own (by assumption) ?ho ?_ ?hs); (case ho => exact ⟨_, _, rfl⟩); (case hs => rfl))
  | ((with_reducible refine' l_cons ?_ ?hs); (case hs => rfl))
  | with_reducible refine l_nil ?_)
local macro_rules | `(tactic| walk_at "fwX") => `(tactic| first
  | ((with_reducible refine' exIx ?h1 ?h2 ?h3 ?_); (case h1 => rfl); (case h2 => rfl); (case h3 => rfl))
  | ((with_reducible refine' exLen (n := 2) ?h1 ?_); (case h1 => rfl))
  | ((with_reducible refine' exLen (n := 6) ?h1 ?_); (case h1 => rfl))
  | ((with_reducible refine' exLen ?h1 ?_); (case h1 => rfl))
  | ((with_reducible refine' exIsi ?h1 ?h2 ?h3 ?_); (case h1 => rfl); (case h2 => rfl); (case h3 => rfl))
  | ((with_reducible refine' exIn ?h1 ?h2 ?h3 ?_); (case h1 => rfl); (case h2 => rfl); (case h3 => rfl))
  | ((with_reducible refine' bT ?h1 ?_); (case h1 => decide))
  | ((with_reducible refine' bF ?h1 ?_); (case h1 => decide))
  | ((with_reducible refine' exIxO ?h1 ?h2 ?h3 ?_); (case h1 => rfl); (case h2 => rfl); (case h3 => rfl))
  | ((with_reducible refine' exSet ?h1 ?h2 ?h3 ?_); (case h1 => rfl); (case h2 => rfl); (case h3 => rfl); (dsimp only [List.set_cons_zero, List.set_cons_succ]))
  | ((with_reducible refine' exOwn ?h1 ?_); (case h1 => exact ⟨_, _, rfl⟩))
  | with_reducible refine ⟨_, eqOk_int, ?_⟩
  | with_reducible refine ⟨_, eqOk_str, ?_⟩
  | with_reducible refine ⟨_, eqOk_fr, ?_⟩
  | with_reducible refine ⟨_, eqOk_bl, ?_⟩
  | ((with_reducible refine' leL ?h1 ?_); (case h1 => rfl))
  | ((with_reducible show npar _ _ = true ∧ _); (refine ⟨rfl, ?_⟩); (try dsimp only [List.set_cons_zero, List.set_cons_succ, A.loc]))
  | ((with_reducible show List.Nodup _ ∧ _); first | refine ⟨.nil, ?_⟩ | refine ⟨(by dsimp only [slots]; decide), ?_⟩)
  | with_reducible refine ⟨_, rfl, ?_⟩)
/-- behind a call: what was given back -/
local macro_rules | `(tactic| walk_at "fwD") => `(tactic| dsimp only [give, lend, lend1, slots, flag, A.frz, O.frz, A.loc, List.getElem?_cons_zero, List.getElem?_cons_succ, List.set_cons_zero, List.set_cons_succ])
local macro_rules | `(tactic| walk_at "fw") => `(tactic| first
  | ((with_reducible show GoV _ _ _ _); first
    | walk_at "fwV"
    | ((with_reducible refine v_e ?_); walk_at "fwE"))
  | ((with_reducible show GoE _ _ _ _); first
    | walk_at "fwE"
    | ((with_reducible refine e_v ?_); walk_at "fwV"))
  | ((with_reducible show WT _ _ _ _); walk_at "fwT")
  | ((with_reducible show WS _ _ _ _); walk_at "fwS")
  | walk_at "fwA"
  | walk_at "fwX")

section
variable {P : Program} {w : World} {K : PySem.W.Frag} {mg : Str → Option Value} {base : Heap}
/-- a table of other heavinesses, as a dict -/
structure KD (kf : Str → Option Rat) (ks : List Str) (xs : List D) : Prop where
  ok : Hg.KOk kf
  at' : ∀ s, dG ks xs s = (kf s).map fr
def k0 : Str → Option Rat := fun _ => none
theorem kd0 : KD k0 [] [] := { ok := fun _ _ h => (by cases h), at' := fun s => (by unfold dG; rfl) }
def spFelt (n : Nat) : FSp := fun as R _ => ∃ (h : Hg) (kf : Str → Option Rat) (ks : List Str) (xs : List D), as = [.val h.d, .val (.dic ks xs)] ∧ KD kf ks xs ∧ h.Ok ∧ h.nw ≤ n ∧ n ≤ 8 ∧ R as (.val (fr (h.F kf)))
theorem g_felt_of (T : Txt K mg) : ∀ n : Nat, GDef P w K mg base "felt_of" (n + 6) (spFelt n)
  | 0 => gdef T.d_felt_of fun f fd F => fok F sc_felt_of (fun as R RX ⟨h, _, _, _, e, _, _, hn, _⟩ => (no_hg (n := 0) hn).elim) fun g as R RX hg ⟨h, _, _, _, e, _, _, hn, _⟩ => (no_hg (n := 0) hn).elim
  | n + 1 => gdef T.d_felt_of fun f fd F => by
    refine fok F sc_felt_of (fun as R RX ⟨h, _, _, _, e, _⟩ => by subst e; rfl) fun g as R RX hg ⟨h, kf, ks, xs, e, kd, ok, hn, hn8, q⟩ => ?_
    subst e
    obtain ⟨v_hanging, v_known, w_hanging, w_known, l_hanging, l_known, b_len, ct⟩ := fx_felt_of T hg
    have c1 := ca_felt_of_felt_of hg (g_felt_of T n) (by omega)
    have c2 := ca_felt_of_both_felt hg (g_both_felt T) (by omega)
    conv => arg 2; whnf
    show GoB g _ [some (.val h.d), some (.val (.dic ks xs))] _
    cases h with
    | wt nm hv =>
      change GoB g _ [some (.val (.tup [.str nm, .int hv])), some (.val (.dic ks xs))] _
      repeat walk_at "fw"
      refine ⟨_, _, rfl, ?_⟩
      repeat walk_at "fw"
      have e : (dG ks xs nm).getD (.tup [.int hv, .int 1]) = fr ((Hg.wt nm hv).F kf) := by
        rw [kd.at' nm]
        show ((kf nm).map fr).getD (fr (hv : Rat)) = fr ((kf nm).getD (hv : Rat))
        cases kf nm <;> rfl
      rw [e]
      exact q
    | pu nm own l a r b =>
      obtain ⟨o1, o2, o2', o3, o4, o4', o5, o6, o6'⟩ := ok
      have e : (Hg.pu nm own l a r b).nw = l.nw + r.nw := rfl
      have hl := l.nw_pos
      have hr := r.nw_pos
      change GoB g _ [some (.val (.tup [.str nm, .int own, l.d, .int a, r.d, .int b])), some (.val (.dic ks xs))] _
      repeat walk_at "fw"
      refine ⟨l, kf, ks, xs, rfl, kd, o3, by omega, by omega, ?_⟩
      walk_at "fwD"
      repeat walk_at "fw"
      refine ⟨r, kf, ks, xs, rfl, kd, o5, by omega, by omega, ?_⟩
      walk_at "fwD"
      repeat walk_at "fw"
      refine ⟨own, _, _, _, _, rfl, o2, o2', Hg.F_pos kd.ok o3, Hg.F_pos kd.ok o5, Hg.F_sz kd.ok o3, Hg.F_sz kd.ok o5, by omega, ?_⟩
      exact q
def spFelt1 : FSp := fun as R _ => ∃ h : Hg, as = [.val h.d] ∧ h.Good ∧ R as (.val (fr (h.F k0)))
def rw3 (x : Str × Rat × Rat) : D := .tup [.str x.1, fr x.2.1, fr x.2.2]
def spRuns (n : Nat) : FSp := fun as R _ => ∃ (h : Hg) (kf : Str → Option Rat) (ks : List Str) (xs : List D) (s p : Rat), as = [.val h.d, .val (.dic ks xs), .val (fr s), .val (fr p)] ∧ KD kf ks xs ∧ h.Ok ∧ h.nw ≤ n ∧ n ≤ 8 ∧
  Sz (2000 - 200 * n) (1 - s) ∧ Sz (2001 - 200 * n) s ∧ Sz (2000 - 200 * n) p ∧ R as (.own false (.lst ((Hg.runsM kf h s p).map rw3)))
theorem g_runs (T : Txt K mg) : ∀ n : Nat, GDef P w K mg base "runs" (n + 20) (spRuns n)
  | 0 => gdef T.d_runs fun f fd F => fok F sc_runs (fun as R RX ⟨h, _, _, _, _, _, e, _, _, hn, _⟩ => (no_hg (n := 0) hn).elim) fun g as R RX hg ⟨h, _, _, _, _, _, e, _, _, hn, _⟩ => (no_hg (n := 0) hn).elim
  | n + 1 => gdef T.d_runs fun f fd F => by
    refine fok F sc_runs (fun as R RX ⟨h, _, _, _, _, _, e, _⟩ => by subst e; rfl) fun g as R RX hg ⟨h, kf, ks, xs, s, p, e, kd, ok, hn, hn8, z1, z2, z3, q⟩ => ?_
    subst e
    obtain ⟨v_hanging, v_known, v_speed, v_pull, v_found, v_one, v_other, v_held_so, v_end, v_weight, w_hanging, w_known, w_speed, w_pull, w_found, w_one, w_other, w_held_so, w_end, w_weight, l_hanging, l_known, l_speed, l_pull, l_found, l_one, l_other, l_held_so, l_end, l_weight, b_len, n_ONE, ct⟩ := fx_runs T hg
    have c1 := ca_runs_runs hg (g_runs T n) (by omega)
    have c2 := ca_runs_felt_of hg (g_felt_of T 8) (by omega)
    have c3 := ca_runs_times hg (g_times T) (by omega)
    have c4 := ca_runs_shared hg (g_shared T) (by omega)
    have c5 := ca_runs_plus hg (g_plus T) (by omega)
    have c6 := ca_runs_minus hg (g_minus T) (by omega)
    conv => arg 2; whnf
    show GoB g _ [some (.val h.d), some (.val (.dic ks xs)), some (.val (fr s)), some (.val (fr p)), none, none, none, none, none, none] _
    cases h with
    | wt nm hv =>
      change GoB g _ [some (.val (.tup [.str nm, .int hv])), some (.val (.dic ks xs)), some (.val (fr s)), some (.val (fr p)), none, none, none, none, none, none] _
      repeat walk_at "fw"
      exact q
    | pu nm own l a r b =>
      obtain ⟨o1, o2, o2', o3, o4, o4', o5, o6, o6'⟩ := ok
      have e : (Hg.pu nm own l a r b).nw = l.nw + r.nw := rfl
      have hl := l.nw_pos
      have hr := r.nw_pos
      have n_ONE' : Glo g.X "ONE" (fr 1) := n_ONE
      have one : Sz 1 (1 : Rat) := sz_int (n := 1) (by decide) (by decide)
      have two : Sz 2 (2 : Rat) := sz_int (n := 2) (by decide) (by decide)
      have f1 := Hg.F_pos kd.ok o3
      have f2 := Hg.F_pos kd.ok o5
      have g1 := Hg.F_sz kd.ok o3
      have g2 := Hg.F_sz kd.ok o5
      have n0 : l.F kf + r.F kf ≠ 0 := by grind
      obtain ⟨d1, d2, d3⟩ := Hg.sz_down kd.ok o3 o5 z1 (by omega)
      change GoB g _ [some (.val (.tup [.str nm, .int own, l.d, .int a, r.d, .int b])), some (.val (.dic ks xs)), some (.val (fr s)), some (.val (fr p)), none, none, none, none, none, none] _
      repeat walk_at "fw"
      refine ⟨l, kf, ks, xs, rfl, kd, o3, by omega, by omega, ?_⟩
      walk_at "fwD"
      repeat walk_at "fw"
      refine ⟨r, kf, ks, xs, rfl, kd, o5, by omega, by omega, ?_⟩
      walk_at "fwD"
      refine a_nil ⟨_, _, rfl, rfl, rfl, ?_⟩
      try dsimp only [List.set_cons_zero, List.set_cons_succ]
      repeat walk_at "fw"
      have sm := g1.mul g2 (Nat.le_refl _)
      have sa := g1.add g2 (Nat.le_refl _)
      refine ⟨_, _, rfl, g1.mono (by omega), g2.mono (by omega), trivial, ?_⟩
      walk_at "fwD"
      repeat walk_at "fw"
      refine ⟨2, _, rfl, two.mono (by omega), sm.mono (by omega), trivial, ?_⟩
      walk_at "fwD"
      repeat walk_at "fw"
      refine ⟨_, _, rfl, g1.mono (by omega), g2.mono (by omega), trivial, ?_⟩
      walk_at "fwD"
      repeat walk_at "fw"
      refine ⟨_, _, rfl, (two.mul sm (Nat.le_refl _)).mono (by omega), sa.mono (by omega), n0, ?_⟩
      walk_at "fwD"
      repeat walk_at "fw"
      refine ⟨1, s, rfl, one.mono (by omega), z2.mono (by omega), trivial, ?_⟩
      walk_at "fwD"
      repeat walk_at "fw"
      refine ⟨_, _, rfl, ((two.mul sm (Nat.le_refl _)).div sa n0 (Nat.le_refl _)).mono (by omega), z1.mono (by omega), trivial, ?_⟩
      walk_at "fwD"
      repeat walk_at "fw"
      refine s_for ct (pg_tup ct.calm (pgs_cons (pg_name w_end.nd w_end.hN w_end.hl w_end.hf) (pgs_cons (pg_name w_weight.nd w_weight.hN w_weight.hl w_weight.hf) pgs_nil))) (i_list ?_)
      repeat walk_at "fw"
      have back : ∀ q : Rat, 1 - (1 - q) = q := fun q => by grind
      have hs1 := d1.mono (show 2000 - 200 * (n + 1) + 180 ≤ 2000 - 200 * n by omega)
      have hl1 := one.sub d2 (show 1 + (2000 - 200 * (n + 1) + 180) + 1 ≤ 2001 - 200 * n by omega)
      have hr1 := one.sub d3 (show 1 + (2000 - 200 * (n + 1) + 180) + 1 ≤ 2001 - 200 * n by omega)
      have hl0 := d2.mono (show 2000 - 200 * (n + 1) + 180 ≤ 2000 - 200 * n by omega)
      have hr0 := d3.mono (show 2000 - 200 * (n + 1) + 180 ≤ 2000 - 200 * n by omega)
      refine wg_tup rfl (wgs_cons (wg_name rfl (wgs_cons (wg_name rfl (wgs_nil ?_)))))
      try dsimp only [List.set_cons_zero, List.set_cons_succ]
      walk_at "fw"
      walk_at "fw"
      refine e_v (g_extend v_found rfl ?_)
      repeat walk_at "fw"
      refine ⟨_, _, rfl, d1.mono (by omega), g1.mono (by omega), (by grind), ?_⟩
      walk_at "fwD"
      repeat walk_at "fw"
      refine ⟨1, _, rfl, one.mono (by omega), d2.mono (by omega), trivial, ?_⟩
      walk_at "fwD"
      repeat walk_at "fw"
      refine ⟨l, kf, ks, xs, _, _, rfl, kd, o3, by omega, by omega, by rw [back]; exact hl0, hl1, hs1, ?_⟩
      walk_at "fwD"
      have ll := Hg.runs_len kf l (1 - 2 * (l.F kf * r.F kf) / (l.F kf + r.F kf) * (1 - s) / l.F kf) (2 * (l.F kf * r.F kf) / (l.F kf + r.F kf) * (1 - s))
      have lr := Hg.runs_len kf r (1 - 2 * (l.F kf * r.F kf) / (l.F kf + r.F kf) * (1 - s) / r.F kf) (2 * (l.F kf * r.F kf) / (l.F kf + r.F kf) * (1 - s))
      refine ⟨_, _, _, rfl, rfl, by simp [ll]; omega, ?_⟩
      try dsimp only [List.set_cons_zero, List.set_cons_succ, List.map_map]
      repeat walk_at "fw"
      refine wg_tup rfl (wgs_cons (wg_name rfl (wgs_cons (wg_name rfl (wgs_nil ?_)))))
      try dsimp only [List.set_cons_zero, List.set_cons_succ]
      walk_at "fw"
      walk_at "fw"
      refine e_v (g_extend v_found rfl ?_)
      repeat walk_at "fw"
      refine ⟨_, _, rfl, d1.mono (by omega), g2.mono (by omega), (by grind), ?_⟩
      walk_at "fwD"
      repeat walk_at "fw"
      refine ⟨1, _, rfl, one.mono (by omega), d3.mono (by omega), trivial, ?_⟩
      walk_at "fwD"
      repeat walk_at "fw"
      refine ⟨r, kf, ks, xs, _, _, rfl, kd, o5, by omega, by omega, by rw [back]; exact hr0, hr1, hs1, ?_⟩
      walk_at "fwD"
      refine ⟨_, _, _, rfl, rfl, by simp [ll, lr]; omega, ?_⟩
      try dsimp only [List.set_cons_zero, List.set_cons_succ, List.map_map]
      walk_at "fw"
      change GoB g _ _ _
      repeat walk_at "fw"
      have e : (Hg.runsM kf (.pu nm own l a r b) s p).map rw3 = [.tup [.str nm, fr s, fr p]] ++ (Hg.runsM kf l (1 - 2 * (l.F kf * r.F kf) / (l.F kf + r.F kf) * (1 - s) / l.F kf) (2 * (l.F kf * r.F kf) / (l.F kf + r.F kf) * (1 - s))).map rw3 ++
          (Hg.runsM kf r (1 - 2 * (l.F kf * r.F kf) / (l.F kf + r.F kf) * (1 - s) / r.F kf) (2 * (l.F kf * r.F kf) / (l.F kf + r.F kf) * (1 - s))).map rw3 := by
        rw [List.append_assoc, ← List.map_append]
        rfl
      rw [e] at q
      exact q
open PySem.W (AllAlike Sortable dataLe)
def srtR (xs : List (Str × Rat × Rat)) : List (Str × Rat × Rat) := xs.mergeSort fun a b => dataLe false toP (rw3 a) (rw3 b)
theorem srtR_perm (xs : List (Str × Rat × Rat)) : (srtR xs).Perm xs := List.mergeSort_perm _ _
theorem srt_rw3 (xs : List (Str × Rat × Rat)) : srt (xs.map rw3) = (srtR xs).map rw3 := (PySem.W.sort_maps rw3 fun a _ b _ => rfl).symm
theorem toP_rw3 (x : Str × Rat × Rat) : toP (rw3 x) = .tuple [.str x.1, .tuple [.int x.2.1.num, .int x.2.1.den], .tuple [.int x.2.2.num, .int x.2.2.den]] := rfl
theorem srt_ok {xs : List (Str × Rat × Rat)} (hl : xs.length ≤ 100000) (hn : ∀ x ∈ xs, NmOk x.1) : SrtOk (xs.map rw3) where
  pl := pds_all.mpr fun d hd => by
    obtain ⟨x, hx, rfl⟩ := List.mem_map.mp hd
    simp [rw3, pd, pds, fr_pd, (hn x hx).str]
  al := by
    rw [List.map_map]
    exact AllAlike.of fun a b => by simp [toP_rw3, PySem.W.alike, PySem.W.alikeAll]
  so := by
    rw [List.map_map]
    exact Sortable.tuples fun b => ⟨_, _, toP_rw3 b⟩
  le := by simpa using hl
  dp := fun d hd => by
    obtain ⟨x, hx, rfl⟩ := List.mem_map.mp hd
    rw [toP_rw3]
    simp [PyData.depth, PyData.depthAll]
def spAll : FSp := fun as R _ => ∃ (h : Hg) (kf : Str → Option Rat) (ks : List Str) (xs : List D), as = [.val h.d, .val (.dic ks xs)] ∧ KD kf ks xs ∧ h.Ok ∧ h.nw ≤ 8 ∧ R as (.own false (.lst ((srtR (Hg.runsM kf h 0 (h.F kf))).map rw3)))
theorem g_all_runs (T : Txt K mg) : GDef P w K mg base "all_runs" 29 spAll := gdef T.d_all_runs fun f fd F => by
  refine fok F sc_all_runs (fun as R RX ⟨_, _, _, _, e, _⟩ => by subst e; rfl) fun g as R RX hg ⟨h, kf, ks, xs, e, kd, ok, hn, q⟩ => ?_
  subst e
  obtain ⟨v_hanging, v_known, w_hanging, w_known, l_hanging, l_known, b_sorted, n_NOUGHT, ct⟩ := fx_all_runs T hg
  have c1 := ca_all_runs_runs hg (g_runs T 8) (by omega)
  have c2 := ca_all_runs_felt_of hg (g_felt_of T 8) (by omega)
  have n_NOUGHT' : Glo g.X "NOUGHT" (fr 0) := n_NOUGHT
  conv => arg 2; whnf
  show GoB g _ [some (.val h.d), some (.val (.dic ks xs))] _
  repeat walk_at "fw"
  refine ⟨h, kf, ks, xs, rfl, kd, ok, hn, by omega, ?_⟩
  walk_at "fwD"
  repeat walk_at "fw"
  have sz1 : Sz (2000 - 200 * 8) (1 - (0 : Rat)) := by
    have e : (1 : Rat) - 0 = 1 := by grind
    rw [e]
    exact (sz_int (n := 1) (a := 1) (by decide) (by decide)).mono (by omega)
  have sz0 : Sz (2001 - 200 * 8) (0 : Rat) := (sz_int (n := 0) (a := 1) (by decide) (by decide)).mono (by omega)
  refine ⟨h, kf, ks, xs, 0, _, rfl, kd, ok, hn, by omega, sz1, sz0, (Hg.F_sz kd.ok ok).mono (by omega), ?_⟩
  walk_at "fwD"
  have hl := Hg.runs_len kf h 0 (h.F kf)
  refine ⟨_, rfl, srt_ok (by omega) (fun x hx => Hg.names_ok ok _ (by rw [← Hg.runs_names kf h 0 (h.F kf)]; exact List.mem_map_of_mem hx)), ?_⟩
  rw [srt_rw3]
  exact q
def row1 (x : Str × Rat × Rat) : Str × D := (x.1, fr x.2.1)
def row2 (x : Str × Rat × Rat) : Str × D := (x.1, fr x.2.2)
/-- all runs of a hanging by itself -/
def runs0 (h : Hg) : List (Str × Rat × Rat) := srtR (Hg.runsM k0 h 0 (h.F k0))
theorem runs0_len (h : Hg) : (runs0 h).length + 1 = 2 * h.nw := by
  rw [runs0, (srtR_perm _).length_eq]
  exact Hg.runs_len ..
def spRows (f : Str × Rat × Rat → Str × D) : FSp := fun as R _ => ∃ h : Hg, as = [.val h.d] ∧ h.Good ∧ R as (.own false (.lst (prs ((runs0 h).map f))))
theorem g_speeds (T : Txt K mg) : GDef P w K mg base "speeds" 31 (spRows row1) := gdef T.d_speeds fun f fd F => by
  refine fok F sc_speeds (fun as R RX ⟨_, e, _⟩ => by subst e; rfl) fun g as R RX hg ⟨h, e, ok, q⟩ => ?_
  subst e
  obtain ⟨v_hanging, w_hanging, l_hanging, ct⟩ := fx_speeds T hg
  have c1 := ca_speeds_all_runs hg (g_all_runs T) (by omega)
  have c2 := ca_speeds_need_hanging hg (g_need_hanging T) (by omega)
  have hl := runs0_len h
  have h8 := ok.nw
  conv => arg 2; whnf
  show GoB g _ [some (.val h.d), none, none, none] _
  repeat walk_at "fw"
  refine ⟨h, rfl, ok, ?_⟩
  walk_at "fwD"
  walk_at "fw"
  walk_at "fw"
  refine g_lc hg (own := [("name", 1), ("speed", 2), ("pull", 3)]) (by decide +kernel) (pgb_tup (n := 3) ct.calm (pgb_cons (pgb_name (i := 1) hg rfl rfl) (pgb_cons (pgb_name (i := 2) hg rfl rfl) (pgb_cons (pgb_name (i := 3) hg rfl rfl) pgb_nil)))) (by decide) (i_list ?_)
  repeat walk_at "fw"
  refine ⟨h, k0, [], [], rfl, kd0, ok.ok, ok.nw, ?_⟩
  walk_at "fwD"
  refine ⟨_, rfl, by simp [runs0] at hl ⊢; omega, loopC_on rw3 (fun x => [.tup [.str x.1, fr x.2.1]]) rfl _ _ (by simp [runs0] at hl ⊢; omega) (fun c hc => ?_) ?_⟩
  · refine gv_tup rfl (gvs_cons (gv_name rfl (by decide) (gvs_cons (gv_name rfl (by decide) (gvs_cons (gv_name rfl (by decide) (gvs_nil ?_)))))))
    refine fun X' bX => ⟨fun _ X'' bX => ?_, fun h => absurd h (by decide)⟩
    have hb := hg.blk bX rfl
    have v_name := hb.v (l := [("name", 1)]) (by decide +kernel) (.head _)
    have v_speed := hb.v (l := [("speed", 2)]) (by decide +kernel) (.head _)
    repeat walk_at "fw"
    exact ⟨rfl, rfl, rfl⟩
  · rw [List.nil_append, fm_map]
    rw [prs, List.map_map] at q
    exact q
end

end KW

set_option Elab.async false
set_option linter.all false
set_option maxRecDepth 100000
set_option maxHeartbeats 4000000
namespace KW
open PySem PySem.Spec L2 FW
/-- the walk over data, a rule a step -/
local macro_rules | `(tactic| walk_at "fwS") => `(tactic| first
  | with_reducible refine b_cons ?_
  | with_reducible refine b_nil ?_
  | with_reducible refine s_if ?_
  | ((with_reducible refine' s_retO (by assumption) ?hr ?_); (case hr => with_unfolding_all rfl))
  | with_reducible refine s_ret ?_
  | ((with_reducible refine' s_par (by assumption) (by assumption) (by assumption) (by assumption) (by assumption) ?_ ?h1 ?h2 ?h3 ?h4 ?h5 ?h6 ?h7 ?h8); (case h1 => decide); (case h2 => rfl); (case h3 => decide); (case h4 => rfl); (case h5 => rfl); (case h6 => decide); (case h7 => decide); (case h8 => rfl))
  | ((with_reducible refine' s_expr ?_ ?hs); (case hs => rfl))
  | ((with_reducible show GoS _ (.Assign _ (.List _ _) _) _ _); (with_reducible refine' s_setO (by assumption) ?_ ?hs); (case hs => rfl))
  | ((with_reducible show GoS _ (.Assign [.Subscript _ _ _] _ _) _ _); (refine s_setIx (by assumption) (by with_unfolding_all rfl) ?_))
  | ((with_reducible refine' s_set (by assumption) ?_ ?hs); (case hs => with_unfolding_all rfl)))
local macro_rules | `(tactic| walk_at "fwV") => `(tactic| first
  | ((with_reducible refine' g_var (by assumption) ?hr ?_); (case hr => with_unfolding_all rfl))
  | with_reducible refine g_int ?_
  | ((with_reducible show GoV _ (.Subscript (.Name "table" _) _ _) _ _); (refine g_dix (by assumption) ?_))
  | ((with_reducible show GoV _ (.Subscript (.Call (.Name "dict" _) _ _ _) _ _) _ _); (refine g_dix (by assumption) ?_))
  | ((with_reducible refine' g_ixO (by assumption) ?ho ?_ ?hs); (case ho => with_unfolding_all rfl); (case hs => exact fun _ _ => rfl))
  | ((with_reducible refine' g_ix ?_ ?hs); (case hs => exact fun _ _ => rfl))
  | ((with_reducible show GoV _ (.BinOp (.List _ _) .Add _ _) _ _); (with_reducible refine v_e ?_); (with_reducible refine g_catL ?_))
  | ((with_reducible show GoV _ (.BinOp (.BinOp (.List _ _) .Add _ _) .Add _ _) _ _); (with_reducible refine v_e ?_); (with_reducible refine g_catL ?_))
  | with_reducible refine g_catT (b := .Tuple _ _ _) ?_
  | with_reducible refine g_add ?_
  | with_reducible refine g_mul ?_
  | with_reducible refine g_sub ?_
  | with_reducible refine g_tup ?_
  | ((with_reducible refine' g_lenSet (by assumption) (by assumption) (by assumption) ?_ ?h1); (case h1 => rfl))
  | ((with_reducible refine' g_lenO (by assumption) (by assumption) ?ho ?_ ?h1 ?h2 ?h3); (case ho => with_unfolding_all rfl); (case h1 => rfl); (case h2 => rfl); (case h3 => rfl))
  | ((with_reducible refine' g_len (by assumption) ?_ ?h1 ?h2); (case h1 => rfl); (case h2 => rfl))
  | with_reducible refine g_str ?_
  | with_reducible refine g_bl ?_
  | with_reducible refine g_non ?_
  | with_reducible refine g_glob (by assumption) ?_
  | with_reducible refine g_bltn (by assumption) ?_
  | with_reducible refine g_mod ?_
  | ((with_reducible refine' g_append (by assumption) ?ho ?_ ?h1 ?h2 ?h3); (case ho => with_unfolding_all rfl); (case h1 => exact ⟨rfl, rfl, rfl⟩); (case h2 => rfl); (case h3 => rfl))
  | ((with_reducible refine' g_popAt (by assumption) ?ho ?_ ?h1 ?h2 ?h3); (case ho => with_unfolding_all rfl); (case h1 => exact ⟨rfl, rfl, rfl⟩); (case h2 => rfl); (case h3 => rfl))
  | with_reducible refine g_fdiv ?_
  | with_reducible refine g_pow ?_
  | with_reducible refine g_neg ?_
  | ((with_reducible refine' g_abs (by assumption) ?_ ?h1 ?h2); (case h1 => rfl); (case h2 => rfl))
  | ((with_reducible refine' g_all ?hc (by assumption) ?_ ?h1 ?h2); (case hc => exact Ct.calm (by assumption)); (case h1 => rfl); (case h2 => rfl))
  | ((with_reducible refine' g_chain2 ?_ ?hm); (case hm => with_unfolding_all rfl))
  | ((with_reducible refine' g_get2 (by assumption) ?_ ?hm); (case hm => exact ⟨rfl, rfl, rfl, rfl⟩))
  | ((with_reducible refine' g_slT ?_))
  | with_reducible refine g_eqX (by assumption) ?_
  | with_reducible refine g_neX (by assumption) ?_
  | with_reducible refine g_isN ?_
  | ((with_reducible refine' g_isi (T := "") (C := "") (by assumption) ?_ ?h1 ?h2 ?h3); (case h1 => rfl); (case h2 => rfl); (case h3 => rfl))
  | with_reducible refine g_ifx ?_
  | with_reducible refine g_lt ?_
  | with_reducible refine g_le ?_
  | with_reducible refine g_gt ?_
  | with_reducible refine g_and ?_
  | with_reducible refine g_or ?_
  | with_reducible refine g_one ?_
  | with_reducible refine g_not ?_)
local macro_rules | `(tactic| walk_at "fwE") => `(tactic| first
  | ((with_reducible refine' g_call (by assumption) ?_ ?h1 ?h2); (case h1 => rfl); (case h2 => rfl))
  | ((with_reducible show GoE _ (.BinOp (.List _ _) .Add _ _) _ _); (with_reducible refine g_catL ?_))
  | ((with_reducible show GoE _ (.BinOp (.BinOp (.List _ _) .Add _ _) .Add _ _) _ _); (with_reducible refine g_catL ?_))
  | with_reducible refine g_lst ?_
  | with_reducible refine g_dnew ?_
  | ((with_reducible refine' g_sorted (by assumption) (by assumption) ?_ ?h1 ?h2); (case h1 => rfl); (case h2 => rfl))
  | ((with_reducible refine' g_dict (by assumption) (by assumption) ?_ ?h1 ?h2); (case h1 => rfl); (case h2 => rfl)))
local macro_rules | `(tactic| walk_at "fwT") => `(tactic| first
  | with_reducible refine t_lt ?_
  | with_reducible refine t_le ?_
  | with_reducible refine t_gt ?_
  | with_reducible refine t_ge ?_
  | with_reducible refine t_notN ?_
  | with_reducible refine t_isN ?_
  | ((with_reducible refine' t_nin ?_ ?hm); (case hm => rfl))
  | ((with_reducible refine' t_in ?_ ?hm); (case hm => rfl))
  | ((with_reducible refine' t_chain2 ?_ ?hm); (case hm => with_unfolding_all rfl))
  | with_reducible refine t_isnB ?_
  | with_reducible refine t_neX (by assumption) ?_
  | with_reducible refine t_eqX (by assumption) ?_
  | with_reducible refine t_not ?_
  | with_reducible refine t_and ?_
  | with_reducible refine t_or ?_
  | with_reducible refine w_and ?_
  | with_reducible refine w_and1 ?_
  | with_reducible refine w_or ?_
  | with_reducible refine w_or1 ?_
  | ((with_reducible refine' t_val ?_ ?h); (case h => intro _; rfl)))
local macro_rules | `(tactic| walk_at "fwA") => `(tactic| first
  | ((with_reducible refine' a_cons ?_ ?hs); (case hs => rfl))
  | with_reducible refine a_nil ?_
  | ((with_reducible refine' l_own (by assumption) ?ho ?_ ?hs); (case ho => exact ⟨_, _, rfl⟩); (case hs => rfl))
  | ((with_reducible refine' l_cons ?_ ?hs); (case hs => rfl))
  | with_reducible refine l_nil ?_)
local macro_rules | `(tactic| walk_at "fwX") => `(tactic| first
  | ((with_reducible refine' exIx ?h1 ?h2 ?h3 ?_); (case h1 => rfl); (case h2 => rfl); (case h3 => rfl))
  | ((with_reducible refine' exLen (n := 2) ?h1 ?_); (case h1 => rfl))
  | ((with_reducible refine' exLen (n := 6) ?h1 ?_); (case h1 => rfl))
  | ((with_reducible refine' exLen ?h1 ?_); (case h1 => rfl))
  | ((with_reducible refine' exIsi ?h1 ?h2 ?h3 ?_); (case h1 => rfl); (case h2 => rfl); (case h3 => rfl))
  | ((with_reducible refine' exIn ?h1 ?h2 ?h3 ?_); (case h1 => rfl); (case h2 => rfl); (case h3 => rfl))
  | ((with_reducible refine' bT ?h1 ?_); (case h1 => decide))
  | ((with_reducible refine' bF ?h1 ?_); (case h1 => decide))
  | ((with_reducible refine' exIxO ?h1 ?h2 ?h3 ?_); (case h1 => rfl); (case h2 => rfl); (case h3 => rfl))
  | ((with_reducible refine' exSet ?h1 ?h2 ?h3 ?_); (case h1 => rfl); (case h2 => rfl); (case h3 => rfl); (dsimp only [List.set_cons_zero, List.set_cons_succ]))
  | ((with_reducible refine' exOwn ?h1 ?_); (case h1 => exact ⟨_, _, rfl⟩))
  | with_reducible refine ⟨_, eqOk_int, ?_⟩
  | with_reducible refine ⟨_, eqOk_str, ?_⟩
  | with_reducible refine ⟨_, eqOk_fr, ?_⟩
  | with_reducible refine ⟨_, eqOk_bl, ?_⟩
  | ((with_reducible refine' leL ?h1 ?_); (case h1 => rfl))
  | ((with_reducible show npar _ _ = true ∧ _); (refine ⟨rfl, ?_⟩); (try dsimp only [List.set_cons_zero, List.set_cons_succ, A.loc]))
  | ((with_reducible show List.Nodup _ ∧ _); first | refine ⟨.nil, ?_⟩ | refine ⟨(by dsimp only [slots]; decide), ?_⟩)
  | with_reducible refine ⟨_, rfl, ?_⟩)
/-- behind a call: what was given back -/
local macro_rules | `(tactic| walk_at "fwD") => `(tactic| dsimp only [give, lend, lend1, slots, flag, A.frz, O.frz, A.loc, List.getElem?_cons_zero, List.getElem?_cons_succ, List.set_cons_zero, List.set_cons_succ])
local macro_rules | `(tactic| walk_at "fw") => `(tactic| first
  | ((with_reducible show GoV _ _ _ _); first
    | walk_at "fwV"
    | ((with_reducible refine v_e ?_); walk_at "fwE"))
  | ((with_reducible show GoE _ _ _ _); first
    | walk_at "fwE"
    | ((with_reducible refine e_v ?_); walk_at "fwV"))
  | ((with_reducible show WT _ _ _ _); walk_at "fwT")
  | ((with_reducible show WS _ _ _ _); walk_at "fwS")
  | walk_at "fwA"
  | walk_at "fwX")

section
variable {P : Program} {w : World} {K : PySem.W.Frag} {mg : Str → Option Value} {base : Heap}
theorem g_held (T : Txt K mg) : GDef P w K mg base "held" 31 (spRows row2) := gdef T.d_held fun f fd F => by
  refine fok F sc_held (fun as R RX ⟨_, e, _⟩ => by subst e; rfl) fun g as R RX hg ⟨h, e, ok, q⟩ => ?_
  subst e
  obtain ⟨v_hanging, w_hanging, l_hanging, ct⟩ := fx_held T hg
  have c1 := ca_held_all_runs hg (g_all_runs T) (by omega)
  have c2 := ca_held_need_hanging hg (g_need_hanging T) (by omega)
  have hl := runs0_len h
  have h8 := ok.nw
  conv => arg 2; whnf
  show GoB g _ [some (.val h.d), none, none, none] _
  repeat walk_at "fw"
  refine ⟨h, rfl, ok, ?_⟩
  walk_at "fwD"
  walk_at "fw"
  walk_at "fw"
  refine g_lc hg (own := [("name", 1), ("speed", 2), ("pull", 3)]) (by decide +kernel) (pgb_tup (n := 3) ct.calm (pgb_cons (pgb_name (i := 1) hg rfl rfl) (pgb_cons (pgb_name (i := 2) hg rfl rfl) (pgb_cons (pgb_name (i := 3) hg rfl rfl) pgb_nil)))) (by decide) (i_list ?_)
  repeat walk_at "fw"
  refine ⟨h, k0, [], [], rfl, kd0, ok.ok, ok.nw, ?_⟩
  walk_at "fwD"
  refine ⟨_, rfl, by simp [runs0] at hl ⊢; omega, loopC_on rw3 (fun x => [.tup [.str x.1, fr x.2.2]]) rfl _ _ (by simp [runs0] at hl ⊢; omega) (fun c hc => ?_) ?_⟩
  · refine gv_tup rfl (gvs_cons (gv_name rfl (by decide) (gvs_cons (gv_name rfl (by decide) (gvs_cons (gv_name rfl (by decide) (gvs_nil ?_)))))))
    refine fun X' bX => ⟨fun _ X'' bX => ?_, fun h => absurd h (by decide)⟩
    have hb := hg.blk bX rfl
    have v_name := hb.v (l := [("name", 1)]) (by decide +kernel) (.head _)
    have v_pull := hb.v (l := [("pull", 3)]) (by decide +kernel) (.head _)
    repeat walk_at "fw"
    exact ⟨rfl, rfl, rfl⟩
  · rw [List.nil_append, fm_map]
    rw [prs, List.map_map] at q
    exact q

/-- all stand still -/
def stillB (h : Hg) : Bool := ((runs0 h).map fun x => decide (x.2.1 = 0)).all id
def spStill : FSp := fun as R _ => ∃ h : Hg, as = [.val h.d] ∧ h.Ok ∧ h.nw ≤ 8 ∧ R as (.val (.bl (stillB h)))
theorem g_is_still (T : Txt K mg) : GDef P w K mg base "is_still" 31 spStill := gdef T.d_is_still fun f fd F => by
  refine fok F sc_is_still (fun as R RX ⟨_, e, _⟩ => by subst e; rfl) fun g as R RX hg ⟨h, e, ok, h8, q⟩ => ?_
  subst e
  obtain ⟨v_hanging, w_hanging, l_hanging, b_all, ct⟩ := fx_is_still T hg
  have c1 := ca_is_still_all_runs hg (g_all_runs T) (by omega)
  have hl := runs0_len h
  conv => arg 2; whnf
  show GoB g _ [some (.val h.d), none, none, none] _
  walk_at "fw"
  walk_at "fw"
  walk_at "fw"
  refine v_e (g_lc hg (own := [("name", 1), ("speed", 2), ("pull", 3)]) (by decide +kernel) (pgb_tup (n := 3) ct.calm (pgb_cons (pgb_name (i := 1) hg rfl rfl) (pgb_cons (pgb_name (i := 2) hg rfl rfl) (pgb_cons (pgb_name (i := 3) hg rfl rfl) pgb_nil)))) (by decide) (i_list ?_))
  repeat walk_at "fw"
  refine ⟨h, k0, [], [], rfl, kd0, ok, h8, ?_⟩
  walk_at "fwD"
  refine ⟨_, rfl, by simp [runs0] at hl ⊢; omega, loopC_on rw3 (fun x => [.bl (decide (x.2.1 = 0))]) rfl _ _ (by simp [runs0] at hl ⊢; omega) (fun c hc => ?_) ?_⟩
  · refine gv_tup rfl (gvs_cons (gv_name rfl (by decide) (gvs_cons (gv_name rfl (by decide) (gvs_cons (gv_name rfl (by decide) (gvs_nil ?_)))))))
    refine fun X' bX => ⟨fun _ X'' bX => ?_, fun h => absurd h (by decide)⟩
    have hb := hg.blk bX rfl
    have ct' := hb.ct
    have v_speed := hb.v (l := [("speed", 2)]) (by decide +kernel) (.head _)
    have n_NOUGHT : Glo _ "NOUGHT" (fr 0) := hb.glo (l := ["NOUGHT"]) (by decide +kernel) T.n_NOUGHT (.head _)
    repeat walk_at "fw"
    exact ⟨rfl, rfl, rfl⟩
  · rw [List.nil_append, fm_map]
    refine ⟨(runs0 h).map fun x => decide (x.2.1 = 0), ?_, ?_⟩
    · rw [List.map_map]
      rfl
    · exact q
def spRests : FSp := fun as R _ => ∃ h : Hg, as = [.val h.d] ∧ h.Good ∧ R as (.val (.bl (stillB h)))
theorem g_rests (T : Txt K mg) : GDef P w K mg base "rests" 33 spRests := gdef T.d_rests fun f fd F => by
  refine fok F sc_rests (fun as R RX ⟨_, e, _⟩ => by subst e; rfl) fun g as R RX hg ⟨h, e, ok, q⟩ => ?_
  subst e
  obtain ⟨v_hanging, w_hanging, l_hanging, ct⟩ := fx_rests T hg
  have c1 := ca_rests_is_still hg (g_is_still T) (by omega)
  have c2 := ca_rests_need_hanging hg (g_need_hanging T) (by omega)
  conv => arg 2; whnf
  show GoB g _ [some (.val h.d)] _
  repeat walk_at "fw"
  refine ⟨h, rfl, ok, ?_⟩
  walk_at "fwD"
  repeat walk_at "fw"
  refine ⟨h, rfl, ok.ok, ok.nw, ?_⟩
  exact q
end

end KW

set_option Elab.async false
set_option linter.all false
set_option maxRecDepth 100000
set_option maxHeartbeats 4000000
namespace KW
open PySem PySem.Spec L2 FW
/-- the walk over data, a rule a step -/
local macro_rules | `(tactic| walk_at "fwS") => `(tactic| first
  | with_reducible refine b_cons ?_
  | with_reducible refine b_nil ?_
  | with_reducible refine s_if ?_
  | ((with_reducible refine' s_retO (by assumption) ?hr ?_); (case hr => with_unfolding_all rfl))
  | with_reducible refine s_ret ?_
  | ((with_reducible refine' s_par (by assumption) (by assumption) (by assumption) (by assumption) (by assumption) ?_ ?h1 ?h2 ?h3 ?h4 ?h5 ?h6 ?h7 ?h8); (case h1 => decide); (case h2 => rfl); (case h3 => decide); (case h4 => rfl); (case h5 => rfl); (case h6 => decide); (case h7 => decide); (case h8 => rfl))
  | ((with_reducible refine' s_expr ?_ ?hs); (case hs => rfl))
  | ((with_reducible show GoS _ (.Assign _ (.List _ _) _) _ _); (with_reducible refine' s_setO (by assumption) ?_ ?hs); (case hs => rfl))
  | ((with_reducible show GoS _ (.Assign [.Subscript _ _ _] _ _) _ _); (refine s_setIx (by assumption) (by with_unfolding_all rfl) ?_))
  | ((with_reducible refine' s_set (by assumption) ?_ ?hs); (case hs => with_unfolding_all rfl)))
local macro_rules | `(tactic| walk_at "fwV") => `(tactic| first
  | ((with_reducible refine' g_var (by assumption) ?hr ?_); (case hr => with_unfolding_all rfl))
  | with_reducible refine g_int ?_
  | ((with_reducible show GoV _ (.Subscript (.Name "table" _) _ _) _ _); (refine g_dix (by assumption) ?_))
  | ((with_reducible show GoV _ (.Subscript (.Call (.Name "dict" _) _ _ _) _ _) _ _); (refine g_dix (by assumption) ?_))
  | ((with_reducible refine' g_ixO (by assumption) ?ho ?_ ?hs); (case ho => with_unfolding_all rfl); (case hs => exact fun _ _ => rfl))
  | ((with_reducible refine' g_ix ?_ ?hs); (case hs => exact fun _ _ => rfl))
  | ((with_reducible show GoV _ (.BinOp (.List _ _) .Add _ _) _ _); (with_reducible refine v_e ?_); (with_reducible refine g_catL ?_))
  | ((with_reducible show GoV _ (.BinOp (.BinOp (.List _ _) .Add _ _) .Add _ _) _ _); (with_reducible refine v_e ?_); (with_reducible refine g_catL ?_))
  | with_reducible refine g_catT (b := .Tuple _ _ _) ?_
  | with_reducible refine g_add ?_
  | with_reducible refine g_mul ?_
  | with_reducible refine g_sub ?_
  | with_reducible refine g_tup ?_
  | ((with_reducible refine' g_lenSet (by assumption) (by assumption) (by assumption) ?_ ?h1); (case h1 => rfl))
  | ((with_reducible refine' g_lenO (by assumption) (by assumption) ?ho ?_ ?h1 ?h2 ?h3); (case ho => with_unfolding_all rfl); (case h1 => rfl); (case h2 => rfl); (case h3 => rfl))
  | ((with_reducible refine' g_len (by assumption) ?_ ?h1 ?h2); (case h1 => rfl); (case h2 => rfl))
  | with_reducible refine g_str ?_
  | with_reducible refine g_bl ?_
  | with_reducible refine g_non ?_
  | with_reducible refine g_glob (by assumption) ?_
  | with_reducible refine g_bltn (by assumption) ?_
  | with_reducible refine g_mod ?_
  | ((with_reducible refine' g_append (by assumption) ?ho ?_ ?h1 ?h2 ?h3); (case ho => with_unfolding_all rfl); (case h1 => exact ⟨rfl, rfl, rfl⟩); (case h2 => rfl); (case h3 => rfl))
  | ((with_reducible refine' g_popAt (by assumption) ?ho ?_ ?h1 ?h2 ?h3); (case ho => with_unfolding_all rfl); (case h1 => exact ⟨rfl, rfl, rfl⟩); (case h2 => rfl); (case h3 => rfl))
  | with_reducible refine g_fdiv ?_
  | with_reducible refine g_pow ?_
  | with_reducible refine g_neg ?_
  | ((with_reducible refine' g_abs (by assumption) ?_ ?h1 ?h2); (case h1 => rfl); (case h2 => rfl))
  | ((with_reducible refine' g_all ?hc (by assumption) ?_ ?h1 ?h2); (case hc => exact Ct.calm (by assumption)); (case h1 => rfl); (case h2 => rfl))
  | ((with_reducible refine' g_chain2 ?_ ?hm); (case hm => with_unfolding_all rfl))
  | ((with_reducible refine' g_get2 (by assumption) ?_ ?hm); (case hm => exact ⟨rfl, rfl, rfl, rfl⟩))
  | ((with_reducible refine' g_slT ?_))
  | with_reducible refine g_eqX (by assumption) ?_
  | with_reducible refine g_neX (by assumption) ?_
  | with_reducible refine g_isN ?_
  | ((with_reducible refine' g_isi (T := "") (C := "") (by assumption) ?_ ?h1 ?h2 ?h3); (case h1 => rfl); (case h2 => rfl); (case h3 => rfl))
  | with_reducible refine g_ifx ?_
  | with_reducible refine g_lt ?_
  | with_reducible refine g_le ?_
  | with_reducible refine g_gt ?_
  | with_reducible refine g_and ?_
  | with_reducible refine g_or ?_
  | with_reducible refine g_one ?_
  | with_reducible refine g_not ?_)
local macro_rules | `(tactic| walk_at "fwE") => `(tactic| first
  | ((with_reducible refine' g_call (by assumption) ?_ ?h1 ?h2); (case h1 => rfl); (case h2 => rfl))
  | ((with_reducible show GoE _ (.BinOp (.List _ _) .Add _ _) _ _); (with_reducible refine g_catL ?_))
  | ((with_reducible show GoE _ (.BinOp (.BinOp (.List _ _) .Add _ _) .Add _ _) _ _); (with_reducible refine g_catL ?_))
  | with_reducible refine g_lst ?_
  | with_reducible refine g_dnew ?_
  | ((with_reducible refine' g_sorted (by assumption) (by assumption) ?_ ?h1 ?h2); (case h1 => rfl); (case h2 => rfl))
  | ((with_reducible refine' g_dict (by assumption) (by assumption) ?_ ?h1 ?h2); (case h1 => rfl); (case h2 => rfl)))
local macro_rules | `(tactic| walk_at "fwT") => `(tactic| first
  | with_reducible refine t_lt ?_
  | with_reducible refine t_le ?_
  | with_reducible refine t_gt ?_
  | with_reducible refine t_ge ?_
  | with_reducible refine t_notN ?_
  | with_reducible refine t_isN ?_
  | ((with_reducible refine' t_nin ?_ ?hm); (case hm => rfl))
  | ((with_reducible refine' t_in ?_ ?hm); (case hm => rfl))
  | ((with_reducible refine' t_chain2 ?_ ?hm); (case hm => with_unfolding_all rfl))
  | with_reducible refine t_isnB ?_
  | with_reducible refine t_neX (by assumption) ?_
  | with_reducible refine t_eqX (by assumption) ?_
  | with_reducible refine t_not ?_
  | with_reducible refine t_and ?_
  | with_reducible refine t_or ?_
  | with_reducible refine w_and ?_
  | with_reducible refine w_and1 ?_
  | with_reducible refine w_or ?_
  | with_reducible refine w_or1 ?_
  | ((with_reducible refine' t_val ?_ ?h); (case h => intro _; rfl)))
local macro_rules | `(tactic| walk_at "fwA") => `(tactic| first
  | ((with_reducible refine' a_cons ?_ ?hs); (case hs => rfl))
  | with_reducible refine a_nil ?_
  | ((with_reducible refine' l_own (by assumption) ?ho ?_ ?hs); (case ho => exact ⟨_, _, rfl⟩); (case hs => rfl))
  | ((with_reducible refine' l_cons ?_ ?hs); (case hs => rfl))
  | with_reducible refine l_nil ?_)
local macro_rules | `(tactic| walk_at "fwX") => `(tactic| first
  | ((with_reducible refine' exIx ?h1 ?h2 ?h3 ?_); (case h1 => rfl); (case h2 => rfl); (case h3 => rfl))
  | ((with_reducible refine' exLen (n := 2) ?h1 ?_); (case h1 => rfl))
  | ((with_reducible refine' exLen (n := 6) ?h1 ?_); (case h1 => rfl))
  | ((with_reducible refine' exLen ?h1 ?_); (case h1 => rfl))
  | ((with_reducible refine' exIsi ?h1 ?h2 ?h3 ?_); (case h1 => rfl); (case h2 => rfl); (case h3 => rfl))
  | ((with_reducible refine' exIn ?h1 ?h2 ?h3 ?_); (case h1 => rfl); (case h2 => rfl); (case h3 => rfl))
  | ((with_reducible refine' bT ?h1 ?_); (case h1 => decide))
  | ((with_reducible refine' bF ?h1 ?_); (case h1 => decide))
  | ((with_reducible refine' exIxO ?h1 ?h2 ?h3 ?_); (case h1 => rfl); (case h2 => rfl); (case h3 => rfl))
  | ((with_reducible refine' exSet ?h1 ?h2 ?h3 ?_); (case h1 => rfl); (case h2 => rfl); (case h3 => rfl); (dsimp only [List.set_cons_zero, List.set_cons_succ]))
  | ((with_reducible refine' exOwn ?h1 ?_); (case h1 => exact ⟨_, _, rfl⟩))
  | with_reducible refine ⟨_, eqOk_int, ?_⟩
  | with_reducible refine ⟨_, eqOk_str, ?_⟩
  | with_reducible refine ⟨_, eqOk_fr, ?_⟩
  | with_reducible refine ⟨_, eqOk_bl, ?_⟩
  | ((with_reducible refine' leL ?h1 ?_); (case h1 => rfl))
  | ((with_reducible show npar _ _ = true ∧ _); (refine ⟨rfl, ?_⟩); (try dsimp only [List.set_cons_zero, List.set_cons_succ, A.loc]))
  | ((with_reducible show List.Nodup _ ∧ _); first | refine ⟨.nil, ?_⟩ | refine ⟨(by dsimp only [slots]; decide), ?_⟩)
  | with_reducible refine ⟨_, rfl, ?_⟩)
/-- behind a call: what was given back -/
local macro_rules | `(tactic| walk_at "fwD") => `(tactic| dsimp only [give, lend, lend1, slots, flag, A.frz, O.frz, A.loc, List.getElem?_cons_zero, List.getElem?_cons_succ, List.set_cons_zero, List.set_cons_succ])
local macro_rules | `(tactic| walk_at "fw") => `(tactic| first
  | ((with_reducible show GoV _ _ _ _); first
    | walk_at "fwV"
    | ((with_reducible refine v_e ?_); walk_at "fwE"))
  | ((with_reducible show GoE _ _ _ _); first
    | walk_at "fwE"
    | ((with_reducible refine e_v ?_); walk_at "fwV"))
  | ((with_reducible show WT _ _ _ _); walk_at "fwT")
  | ((with_reducible show WS _ _ _ _); walk_at "fwS")
  | walk_at "fwA"
  | walk_at "fwX")

section
variable {P : Program} {w : World} {K : PySem.W.Frag} {mg : Str → Option Value} {base : Heap}
/-- the state of a well -/
def WOk (ds : List D) : Prop := ∃ c s p : Int, ds = [.int c, .int s, .int p] ∧ 0 ≤ c ∧ 0 < s ∧ s < 2 ^ 33 ∧ 0 < p ∧ p < 2 ^ 32
def spTake : FSp := fun as R _ => ∃ (ds : List D) (m : Int), as = [.own true (.lst ds), .val (.int m)] ∧ WOk ds ∧ 0 < m ∧ m < 2 ^ 33 ∧ ∀ (ds' : List D) (r : Int), WOk ds' → 0 ≤ r → r < m → R [.own true (.lst ds'), .val (.int m)] (.val (.int r))
theorem small_mul {m n : Int} (h1 : 0 ≤ m) (h2 : m < 2 ^ 33) (h3 : 0 ≤ n) (h4 : n < 2 ^ 33) : CMulW m n := by
  refine mulW (a := 33) (b := 33) ?_ ?_ (by decide)
  · have : (2 : Nat) ^ 33 = 8589934592 := by decide
    have : (2 : Int) ^ 33 = 8589934592 := by decide
    omega
  · have : (2 : Nat) ^ 33 = 8589934592 := by decide
    have : (2 : Int) ^ 33 = 8589934592 := by decide
    omega
theorem cfd_small {m n : Int} (h3 : 0 < n) (h4 : n < 2 ^ 33) : CFd m n := by
  refine ⟨by omega, ?_⟩
  have : (2 : Nat) ^ 33 = 8589934592 := by decide
  have : (2 : Int) ^ 33 = 8589934592 := by decide
  exact Nat.lt_of_lt_of_le (PySem.Flt.log2_lt_of (k := 33) (by decide) (by omega)) (by decide)
theorem g__law_take (T : Txt K mg) : GDef P w K mg base "_law_take" 1 spTake := gdef T.d__law_take fun f fd F => by
  refine fok F sc__law_take (fun as R RX ⟨_, _, e, _⟩ => by subst e; rfl) fun g as R RX hg ⟨ds, m, e, wo, m0, m1, q⟩ => ?_
  subst e
  obtain ⟨c, s, p, e, c0, s0, s1, p0, p1⟩ := wo
  subst e
  obtain ⟨v_well, v_many, v_drew, w_well, w_many, w_drew, l_well, l_many, l_drew, ct⟩ := fx__law_take T hg
  have e33 : (2 : Int) ^ 33 = 8589934592 := by decide
  have e32 : (2 : Int) ^ 32 = 4294967296 := by decide
  conv => arg 2; whnf
  show GoB g _ [some (.own true (.lst [.int c, .int s, .int p])), some (.val (.int m)), none] _
  repeat walk_at "fw"
  refine ⟨fun h => ?_, fun h => ?_⟩
  · have hc : 0 < c := by simpa using h
    repeat walk_at "fw"
    refine ⟨m0, ?_⟩
    repeat walk_at "fw"
    refine ⟨cfd_small m0 m1, ?_⟩
    repeat walk_at "fw"
    exact q _ _ ⟨c.fdiv m, s, p, rfl, Int.fdiv_nonneg c0 (by omega), s0, s1, p0, p1⟩ (Int.emod_nonneg _ (by omega)) (Int.emod_lt_of_pos _ m0)
  · repeat walk_at "fw"
    refine ⟨small_mul (by omega) (by omega) (by decide) (by decide), ?_⟩
    repeat walk_at "fw"
    refine ⟨p0, ?_⟩
    repeat walk_at "fw"
    have t0 := Int.emod_nonneg (s * 48271) (show p ≠ 0 by omega)
    have t1 := Int.emod_lt_of_pos (s * 48271) p0
    generalize s * 48271 % p = t at t0 t1 ⊢
    repeat walk_at "fw"
    refine ⟨small_mul (by omega) (by omega) (by omega) (by omega), ?_⟩
    repeat walk_at "fw"
    refine ⟨by decide, ?_⟩
    repeat walk_at "fw"
    refine ⟨cfd_small (by decide) (by decide), ?_⟩
    repeat walk_at "fw"
    refine ⟨m0, ?_⟩
    repeat walk_at "fw"
    exact q _ _ ⟨c, t + 1, p, rfl, c0, by omega, by omega, p0, p1⟩ (Int.emod_nonneg _ (by omega)) (Int.emod_lt_of_pos _ m0)
theorem s_join {g : G} {st : Stmt} {ρ : Rho} {nx I : Rho → Prop} {rt : Rho → A → Prop} {bk ct : Rho → Prop} (h : GoS g st ρ ⟨I, rt, bk, ct⟩) (j : ∀ r, I r → nx r) : GoS g st ρ ⟨nx, rt, bk, ct⟩ := WS.imp h j (fun _ _ q => q) (fun _ q => q) fun _ q => q
theorem map_at {α : Type} {f : α → D} {xs : List α} {k : Int} {x : α} (h0 : 0 ≤ k) (h : xs[k.toNat]? = some x) (hl : xs.length < 2 ^ 60) : atI (xs.map f) k = some (f x) := by
  have hk : k.toNat < xs.length := (List.getElem?_eq_some_iff.mp h).1
  unfold atI ixN
  rw [List.length_map, if_pos h0, if_pos (by omega)]
  simp [h]
theorem prime_at (k : Int) : ∃ p : Int, atI [D.int 2147483647, .int 2147483629, .int 2147483587, .int 2147483579, .int 2147483563, .int 2147483549, .int 2147483543, .int 2147483497] (k % 8) = some (.int p) ∧ 0 < p ∧ p < 4294967296 := by
  have t0 := Int.emod_nonneg k (show (8 : Int) ≠ 0 by decide)
  have t1 := Int.emod_lt_of_pos k (show (0 : Int) < 8 by decide)
  generalize k % 8 = t at t0 t1 ⊢
  have z : t = 0 ∨ t = 1 ∨ t = 2 ∨ t = 3 ∨ t = 4 ∨ t = 5 ∨ t = 6 ∨ t = 7 := by omega
  rcases z with rfl | rfl | rfl | rfl | rfl | rfl | rfl | rfl <;> exact ⟨_, rfl, by decide, by decide⟩
/-- a new well -/
def spWell : FSp := fun as R _ => ∃ (xs : List Int) (k : Int), as = [.val (.rdl (xs.map .int)), .val (.int k)] ∧ xs.length ≤ 100 ∧ 0 ≤ k ∧ k ≤ 100 ∧ ∀ ds : List D, WOk ds → R as (.own false (.lst ds))
theorem g__law_well (T : Txt K mg) : GDef P w K mg base "_law_well" 1 spWell := gdef T.d__law_well fun f fd F => by
  refine fok F sc__law_well (fun as R RX ⟨_, _, e, _⟩ => by subst e; rfl) fun g as R RX hg ⟨xs, k, e, hl, k0, k1, q⟩ => ?_
  subst e
  obtain ⟨v_script, v_k, v_cell, v_primes, v_seed, w_script, w_k, w_cell, w_primes, w_seed, l_script, l_k, l_cell, l_primes, l_seed, b_len, ct⟩ := fx__law_well T hg
  conv => arg 2; whnf
  show GoB g _ [some (.val (.rdl (xs.map .int))), some (.val (.int k)), none, none, none] _
  have e33 : (2 : Int) ^ 33 = 8589934592 := by decide
  have e32 : (2 : Int) ^ 32 = 4294967296 := by decide
  walk_at "fw"
  walk_at "fw"
  walk_at "fw"
  walk_at "fw"
  refine b_cons (s_join (I := fun r => ∃ c : Int, r = [some (.val (.rdl (xs.map .int))), some (.val (.int k)), some (.val (.int c)), none, none]) ?_ ?_)
  · repeat walk_at "fw"
    refine ⟨fun h => ?_, fun h => ?_⟩
    · repeat walk_at "fw"
      have hk : k.toNat < xs.length := by have := of_decide_eq_true h; simp at this; omega
      refine ⟨k, _, _, rfl, rfl, map_at k0 (List.getElem?_eq_getElem hk) (by omega), ?_⟩
      repeat walk_at "fw"
      exact ⟨_, rfl⟩
    · repeat walk_at "fw"
      exact ⟨_, rfl⟩
  · rintro _ ⟨c, rfl⟩
    repeat walk_at "fw"
    refine ⟨by decide, ?_⟩
    have t0 := Int.emod_nonneg c (show (2147483489 : Int) ≠ 0 by decide)
    have t1 := Int.emod_lt_of_pos c (show (0 : Int) < 2147483489 by decide)
    generalize c % 2147483489 = t at t0 t1 ⊢
    repeat walk_at "fw"
    refine ⟨small_mul (by decide) (by decide) k0 (by omega), ?_⟩
    repeat walk_at "fw"
    refine ⟨small_mul (by omega) (by omega) (by omega) (by omega), ?_⟩
    repeat walk_at "fw"
    refine ⟨by decide, ?_⟩
    have u0 := Int.emod_nonneg ((t + 1) * (48271 + 2 * k)) (show (2147483489 : Int) ≠ 0 by decide)
    have u1 := Int.emod_lt_of_pos ((t + 1) * (48271 + 2 * k)) (show (0 : Int) < 2147483489 by decide)
    generalize (t + 1) * (48271 + 2 * k) % 2147483489 = u at u0 u1 ⊢
    repeat walk_at "fw"
    refine ⟨small_mul (by omega) (by omega) (by omega) (by omega), ?_⟩
    repeat walk_at "fw"
    refine ⟨by decide, ?_⟩
    have s0 := Int.emod_nonneg (u * u) (show (2147483477 : Int) ≠ 0 by decide)
    have s1 := Int.emod_lt_of_pos (u * u) (show (0 : Int) < 2147483477 by decide)
    generalize u * u % 2147483477 = s at s0 s1 ⊢
    repeat walk_at "fw"
    obtain ⟨pr, h1, h2, h3⟩ := prime_at k
    refine ⟨⟨by decide, by decide, by decide⟩, ?_⟩
    repeat walk_at "fw"
    refine ⟨fun h => ?_, fun h => ?_⟩
    · have hc : (10 : Int) ^ (Int.toNat 18) ≤ c := of_decide_eq_true h
      have hc' : (10 : Int) ^ (Int.toNat 18) = 1000000000000000000 := by decide
      repeat walk_at "fw"
      refine ⟨by decide, ?_⟩
      repeat walk_at "fw"
      refine ⟨_, _, _, _, rfl, rfl, h1, ?_⟩
      repeat walk_at "fw"
      exact q _ ⟨c, _, pr, rfl, by omega, by omega, by omega, h2, by omega⟩
    · repeat walk_at "fw"
      refine ⟨by decide, ?_⟩
      repeat walk_at "fw"
      refine ⟨_, _, _, _, rfl, rfl, h1, ?_⟩
      repeat walk_at "fw"
      exact q _ ⟨0, _, pr, rfl, by omega, by omega, by omega, h2, by omega⟩
def spHeavy : FSp := fun as R _ => ∃ ds : List D, as = [.own true (.lst ds)] ∧ WOk ds ∧ ∀ (ds' : List D) (r : Int), WOk ds' → 1 ≤ r → r ≤ 1000 → R [.own true (.lst ds')] (.val (.int r))
theorem g__law_heavy (T : Txt K mg) : GDef P w K mg base "_law_heavy" 2 spHeavy := gdef T.d__law_heavy fun f fd F => by
  refine fok F sc__law_heavy (fun as R RX ⟨_, e, _⟩ => by subst e; rfl) fun g as R RX hg ⟨ds, e, wo, q⟩ => ?_
  subst e
  obtain ⟨v_well, w_well, l_well, ct⟩ := fx__law_heavy T hg
  have c1 := ca__law_heavy__law_take hg (g__law_take T) (by omega)
  conv => arg 2; whnf
  show GoB g _ [some (.own true (.lst ds))] _
  repeat walk_at "fw"
  refine ⟨ds, 3, rfl, wo, by decide, by decide, fun ds1 r1 w1 a1 b1 => ?_⟩
  walk_at "fwD"
  have z : r1 = 0 ∨ r1 = 1 ∨ r1 = 2 := by omega
  rcases z with rfl | rfl | rfl
  all_goals
    repeat walk_at "fw"
    refine ⟨_, _, rfl, w1, by decide, by decide, fun ds2 r2 w2 a2 b2 => ?_⟩
    walk_at "fwD"
    repeat walk_at "fw"
    exact q ds2 _ w2 (by omega) (by omega)
end

end KW

set_option Elab.async false
set_option linter.all false
set_option maxRecDepth 100000
set_option maxHeartbeats 4000000
namespace KW
open PySem PySem.Spec L2 FW
/-- the walk over data, a rule a step -/
local macro_rules | `(tactic| walk_at "fwS") => `(tactic| first
  | with_reducible refine b_cons ?_
  | with_reducible refine b_nil ?_
  | with_reducible refine s_if ?_
  | ((with_reducible refine' s_retO (by assumption) ?hr ?_); (case hr => with_unfolding_all rfl))
  | with_reducible refine s_ret ?_
  | ((with_reducible refine' s_par (by assumption) (by assumption) (by assumption) (by assumption) (by assumption) ?_ ?h1 ?h2 ?h3 ?h4 ?h5 ?h6 ?h7 ?h8); (case h1 => decide); (case h2 => rfl); (case h3 => decide); (case h4 => rfl); (case h5 => rfl); (case h6 => decide); (case h7 => decide); (case h8 => rfl))
  | ((with_reducible refine' s_expr ?_ ?hs); (case hs => rfl))
  | ((with_reducible show GoS _ (.Assign _ (.List _ _) _) _ _); (with_reducible refine' s_setO (by assumption) ?_ ?hs); (case hs => rfl))
  | ((with_reducible show GoS _ (.Assign [.Subscript _ _ _] _ _) _ _); (refine s_setIx (by assumption) (by with_unfolding_all rfl) ?_))
  | ((with_reducible refine' s_set (by assumption) ?_ ?hs); (case hs => with_unfolding_all rfl)))
local macro_rules | `(tactic| walk_at "fwV") => `(tactic| first
  | ((with_reducible refine' g_var (by assumption) ?hr ?_); (case hr => with_unfolding_all rfl))
  | with_reducible refine g_int ?_
  | ((with_reducible show GoV _ (.Subscript (.Name "table" _) _ _) _ _); (refine g_dix (by assumption) ?_))
  | ((with_reducible show GoV _ (.Subscript (.Call (.Name "dict" _) _ _ _) _ _) _ _); (refine g_dix (by assumption) ?_))
  | ((with_reducible refine' g_ixO (by assumption) ?ho ?_ ?hs); (case ho => with_unfolding_all rfl); (case hs => exact fun _ _ => rfl))
  | ((with_reducible refine' g_ix ?_ ?hs); (case hs => exact fun _ _ => rfl))
  | ((with_reducible show GoV _ (.BinOp (.List _ _) .Add _ _) _ _); (with_reducible refine v_e ?_); (with_reducible refine g_catL ?_))
  | ((with_reducible show GoV _ (.BinOp (.BinOp (.List _ _) .Add _ _) .Add _ _) _ _); (with_reducible refine v_e ?_); (with_reducible refine g_catL ?_))
  | with_reducible refine g_catT (b := .Tuple _ _ _) ?_
  | with_reducible refine g_add ?_
  | with_reducible refine g_mul ?_
  | with_reducible refine g_sub ?_
  | with_reducible refine g_tup ?_
  | ((with_reducible refine' g_lenSet (by assumption) (by assumption) (by assumption) ?_ ?h1); (case h1 => rfl))
  | ((with_reducible refine' g_lenO (by assumption) (by assumption) ?ho ?_ ?h1 ?h2 ?h3); (case ho => with_unfolding_all rfl); (case h1 => rfl); (case h2 => rfl); (case h3 => rfl))
  | ((with_reducible refine' g_len (by assumption) ?_ ?h1 ?h2); (case h1 => rfl); (case h2 => rfl))
  | with_reducible refine g_str ?_
  | with_reducible refine g_bl ?_
  | with_reducible refine g_non ?_
  | with_reducible refine g_glob (by assumption) ?_
  | with_reducible refine g_bltn (by assumption) ?_
  | with_reducible refine g_mod ?_
  | ((with_reducible refine' g_append (by assumption) ?ho ?_ ?h1 ?h2 ?h3); (case ho => with_unfolding_all rfl); (case h1 => exact ⟨rfl, rfl, rfl⟩); (case h2 => rfl); (case h3 => rfl))
  | ((with_reducible refine' g_popAt (by assumption) ?ho ?_ ?h1 ?h2 ?h3); (case ho => with_unfolding_all rfl); (case h1 => exact ⟨rfl, rfl, rfl⟩); (case h2 => rfl); (case h3 => rfl))
  | with_reducible refine g_fdiv ?_
  | with_reducible refine g_pow ?_
  | with_reducible refine g_neg ?_
  | ((with_reducible refine' g_abs (by assumption) ?_ ?h1 ?h2); (case h1 => rfl); (case h2 => rfl))
  | ((with_reducible refine' g_all ?hc (by assumption) ?_ ?h1 ?h2); (case hc => exact Ct.calm (by assumption)); (case h1 => rfl); (case h2 => rfl))
  | ((with_reducible refine' g_chain2 ?_ ?hm); (case hm => with_unfolding_all rfl))
  | ((with_reducible refine' g_get2 (by assumption) ?_ ?hm); (case hm => exact ⟨rfl, rfl, rfl, rfl⟩))
  | ((with_reducible refine' g_slT ?_))
  | with_reducible refine g_eqX (by assumption) ?_
  | with_reducible refine g_neX (by assumption) ?_
  | with_reducible refine g_isN ?_
  | ((with_reducible refine' g_isi (T := "") (C := "") (by assumption) ?_ ?h1 ?h2 ?h3); (case h1 => rfl); (case h2 => rfl); (case h3 => rfl))
  | with_reducible refine g_ifx ?_
  | with_reducible refine g_lt ?_
  | with_reducible refine g_le ?_
  | with_reducible refine g_gt ?_
  | with_reducible refine g_and ?_
  | with_reducible refine g_or ?_
  | with_reducible refine g_one ?_
  | with_reducible refine g_not ?_)
local macro_rules | `(tactic| walk_at "fwE") => `(tactic| first
  | ((with_reducible refine' g_call (by assumption) ?_ ?h1 ?h2); (case h1 => rfl); (case h2 => rfl))
  | ((with_reducible show GoE _ (.BinOp (.List _ _) .Add _ _) _ _); (with_reducible refine g_catL ?_))
  | ((with_reducible show GoE _ (.BinOp (.BinOp (.List _ _) .Add _ _) .Add _ _) _ _); (with_reducible refine g_catL ?_))
  | with_reducible refine g_lst ?_
  | with_reducible refine g_dnew ?_
  | ((with_reducible refine' g_sorted (by assumption) (by assumption) ?_ ?h1 ?h2); (case h1 => rfl); (case h2 => rfl))
  | ((with_reducible refine' g_dict (by assumption) (by assumption) ?_ ?h1 ?h2); (case h1 => rfl); (case h2 => rfl)))
local macro_rules | `(tactic| walk_at "fwT") => `(tactic| first
  | with_reducible refine t_lt ?_
  | with_reducible refine t_le ?_
  | with_reducible refine t_gt ?_
  | with_reducible refine t_ge ?_
  | with_reducible refine t_notN ?_
  | with_reducible refine t_isN ?_
  | ((with_reducible refine' t_nin ?_ ?hm); (case hm => rfl))
  | ((with_reducible refine' t_in ?_ ?hm); (case hm => rfl))
  | ((with_reducible refine' t_chain2 ?_ ?hm); (case hm => with_unfolding_all rfl))
  | with_reducible refine t_isnB ?_
  | with_reducible refine t_neX (by assumption) ?_
  | with_reducible refine t_eqX (by assumption) ?_
  | with_reducible refine t_not ?_
  | with_reducible refine t_and ?_
  | with_reducible refine t_or ?_
  | with_reducible refine w_and ?_
  | with_reducible refine w_and1 ?_
  | with_reducible refine w_or ?_
  | with_reducible refine w_or1 ?_
  | ((with_reducible refine' t_val ?_ ?h); (case h => intro _; rfl)))
local macro_rules | `(tactic| walk_at "fwA") => `(tactic| first
  | ((with_reducible refine' a_cons ?_ ?hs); (case hs => rfl))
  | with_reducible refine a_nil ?_
  | ((with_reducible refine' l_own (by assumption) ?ho ?_ ?hs); (case ho => exact ⟨_, _, rfl⟩); (case hs => rfl))
  | ((with_reducible refine' l_cons ?_ ?hs); (case hs => rfl))
  | with_reducible refine l_nil ?_)
local macro_rules | `(tactic| walk_at "fwX") => `(tactic| first
  | ((with_reducible refine' exIx ?h1 ?h2 ?h3 ?_); (case h1 => rfl); (case h2 => rfl); (case h3 => rfl))
  | ((with_reducible refine' exLen (n := 2) ?h1 ?_); (case h1 => rfl))
  | ((with_reducible refine' exLen (n := 6) ?h1 ?_); (case h1 => rfl))
  | ((with_reducible refine' exLen ?h1 ?_); (case h1 => rfl))
  | ((with_reducible refine' exIsi ?h1 ?h2 ?h3 ?_); (case h1 => rfl); (case h2 => rfl); (case h3 => rfl))
  | ((with_reducible refine' exIn ?h1 ?h2 ?h3 ?_); (case h1 => rfl); (case h2 => rfl); (case h3 => rfl))
  | ((with_reducible refine' bT ?h1 ?_); (case h1 => decide))
  | ((with_reducible refine' bF ?h1 ?_); (case h1 => decide))
  | ((with_reducible refine' exIxO ?h1 ?h2 ?h3 ?_); (case h1 => rfl); (case h2 => rfl); (case h3 => rfl))
  | ((with_reducible refine' exSet ?h1 ?h2 ?h3 ?_); (case h1 => rfl); (case h2 => rfl); (case h3 => rfl); (dsimp only [List.set_cons_zero, List.set_cons_succ]))
  | ((with_reducible refine' exOwn ?h1 ?_); (case h1 => exact ⟨_, _, rfl⟩))
  | with_reducible refine ⟨_, eqOk_int, ?_⟩
  | with_reducible refine ⟨_, eqOk_str, ?_⟩
  | with_reducible refine ⟨_, eqOk_fr, ?_⟩
  | with_reducible refine ⟨_, eqOk_bl, ?_⟩
  | ((with_reducible refine' leL ?h1 ?_); (case h1 => rfl))
  | ((with_reducible show npar _ _ = true ∧ _); (refine ⟨rfl, ?_⟩); (try dsimp only [List.set_cons_zero, List.set_cons_succ, A.loc]))
  | ((with_reducible show List.Nodup _ ∧ _); first | refine ⟨.nil, ?_⟩ | refine ⟨(by dsimp only [slots]; decide), ?_⟩)
  | with_reducible refine ⟨_, rfl, ?_⟩)
/-- behind a call: what was given back -/
local macro_rules | `(tactic| walk_at "fwD") => `(tactic| dsimp only [give, lend, lend1, slots, flag, A.frz, O.frz, A.loc, List.getElem?_cons_zero, List.getElem?_cons_succ, List.set_cons_zero, List.set_cons_succ])
local macro_rules | `(tactic| walk_at "fw") => `(tactic| first
  | ((with_reducible show GoV _ _ _ _); first
    | walk_at "fwV"
    | ((with_reducible refine v_e ?_); walk_at "fwE"))
  | ((with_reducible show GoE _ _ _ _); first
    | walk_at "fwE"
    | ((with_reducible refine e_v ?_); walk_at "fwV"))
  | ((with_reducible show WT _ _ _ _); walk_at "fwT")
  | ((with_reducible show WS _ _ _ _); walk_at "fwS")
  | walk_at "fwA"
  | walk_at "fwX")

section
variable {P : Program} {w : World} {K : PySem.W.Frag} {mg : Str → Option Value} {base : Heap}
/-- a hanging of many weights, its names off the list's end -/
def spHung (n : Nat) : FSp := fun as R _ => ∃ (ds : List D) (m : Nat) (us vs : List Str), as = [.own true (.lst ds), .val (.int m), .own true (.lst ((us ++ vs).map .str))] ∧ WOk ds ∧ 1 ≤ m ∧ m ≤ n ∧ n ≤ 8 ∧ vs.length + 1 = 2 * m ∧ (us ++ vs).length ≤ 100 ∧ (∀ s ∈ vs, NmOk s) ∧
  ∀ (ds' : List D) (h : Hg), WOk ds' → h.Ok → h.nw = m → h.names.Perm vs → R [.own true (.lst ds'), .val (.int m), .own true (.lst (us.map .str))] (.val h.d)
theorem split_last {α : Type} (l : List α) (n : Nat) (h : l.length = n + 1) : ∃ r x, l = r ++ [x] ∧ r.length = n := by
  rcases List.eq_nil_or_concat l with e | ⟨r, x, e⟩
  · rw [e] at h; cases h
  · refine ⟨r, x, by simpa using e, ?_⟩
    rw [e] at h
    simpa using h
theorem split_at {α : Type} (l : List α) (n : Nat) (h : n ≤ l.length) : ∃ r s, l = r ++ s ∧ s.length = n := ⟨l.take (l.length - n), l.drop (l.length - n), (List.take_append_drop _ _).symm, by rw [List.length_drop]; omega⟩
theorem g__law_hung (T : Txt K mg) : ∀ n : Nat, GDef P w K mg base "_law_hung" (n + 4) (spHung n)
  | 0 => gdef T.d__law_hung fun f fd F => fok F sc__law_hung (fun as R RX ⟨_, _, _, _, e, _, h1, h2, _⟩ => absurd h1 (by omega)) fun g as R RX hg ⟨_, _, _, _, e, _, h1, h2, _⟩ => absurd h1 (by omega)
  | n + 1 => gdef T.d__law_hung fun f fd F => by
    refine fok F sc__law_hung (fun as R RX ⟨_, _, _, _, e, _⟩ => by subst e; rfl) fun g as R RX hg ⟨ds, m, us, vs, e, wo, m1, mn, n8, hv, hl, ok, q⟩ => ?_
    subst e
    obtain ⟨v_well, v_many, v_names, v_name, v_part, v_left, v_right, v_own, w_well, w_many, w_names, w_name, w_part, w_left, w_right, w_own, l_well, l_many, l_names, l_name, l_part, l_left, l_right, l_own, ct⟩ := fx__law_hung T hg
    have c1 := ca__law_hung__law_heavy hg (g__law_heavy T) (by omega)
    have c2 := ca__law_hung__law_take hg (g__law_take T) (by omega)
    have c3 := ca__law_hung__law_hung hg (g__law_hung T n) (by omega)
    conv => arg 2; whnf
    show GoB g _ [some (.own true (.lst ds)), some (.val (.int m)), some (.own true (.lst ((us ++ vs).map .str))), none, none, none, none, none] _
    obtain ⟨vr, nm, ev, hvr⟩ := split_last vs (2 * m - 2) (by omega)
    subst ev
    refine b_cons ?_
    refine s_set w_name (g_pop (i := 2) (d := .str nm) v_names rfl ?_ ?_) rfl
    · rw [← List.append_assoc, List.map_append, List.length_append]
      simp
    rw [← List.append_assoc, List.map_append, List.map_singleton, List.dropLast_concat]
    repeat walk_at "fw"
    refine ⟨fun h => ?_, fun h => ?_⟩
    · have hm : m = 1 := by have := of_decide_eq_true h; omega
      subst hm
      repeat walk_at "fw"
      have e0 : vr = [] := List.eq_nil_of_length_eq_zero (by omega)
      subst e0
      refine ⟨ds, rfl, wo, fun ds1 r1 w1 a1 b1 => ?_⟩
      walk_at "fwD"
      repeat walk_at "fw"
      have q' := q ds1 (.wt nm r1) w1 ⟨ok nm (by simp), a1, b1⟩ rfl (by simp [Hg.names, Hg.things, Hg.nm])
      rw [List.append_nil]
      exact q'
    · have hm : 2 ≤ m := by have := of_decide_eq_false h; omega
      repeat walk_at "fw"
      refine ⟨ds, _, rfl, wo, by omega, by omega, fun ds1 r1 w1 a1 b1 => ?_⟩
      walk_at "fwD"
      repeat walk_at "fw"
      obtain ⟨p, hp⟩ : ∃ p : Nat, (1 + r1 : Int) = p := ⟨(1 + r1).toNat, by omega⟩
      rw [hp]
      obtain ⟨va, vb, ev, hvb⟩ := split_at vr (2 * p - 1) (by omega)
      subst ev
      have hva := List.length_append (as := va) (bs := vb)
      have hle : (us ++ (va ++ vb)).length ≤ 100 := by
        simp only [List.length_append] at hl ⊢
        omega
      refine ⟨ds1, p, us ++ va, vb, by rw [List.append_assoc]; rfl, w1, by omega, by omega, by omega, by omega, by rw [List.append_assoc]; exact hle, fun s hs => ok s (by simp [hs]), fun ds2 lft w2 okl nwl perl => ?_⟩
      walk_at "fwD"
      repeat walk_at "fw"
      refine ⟨ds2, m - p, us, va, by rw [Int.ofNat_sub (by omega)]; rfl, w2, by omega, by omega, by omega, by omega, by simp only [List.length_append] at hle ⊢; omega, fun s hs => ok s (by simp [hs]), fun ds3 rgt w3 okr nwr perr => ?_⟩
      walk_at "fwD"
      repeat walk_at "fw"
      refine ⟨ds3, 9, rfl, w3, by decide, by decide, fun ds4 r4 w4 a4 b4 => ?_⟩
      walk_at "fwD"
      repeat walk_at "fw"
      refine ⟨ds4, 1001, rfl, w4, by decide, by decide, fun ds5 r5 w5 a5 b5 => ?_⟩
      walk_at "fwD"
      repeat walk_at "fw"
      refine ⟨ds5, 4, rfl, w5, by decide, by decide, fun ds6 r6 w6 a6 b6 => ?_⟩
      walk_at "fwD"
      obtain ⟨own, h6, o1, o2⟩ : ∃ own : Int, atI [D.int 0, .int 0, .int r4, .int r5] r6 = some (.int own) ∧ 0 ≤ own ∧ own ≤ 1000 := by
        have z : r6 = 0 ∨ r6 = 1 ∨ r6 = 2 ∨ r6 = 3 := by omega
        rcases z with rfl | rfl | rfl | rfl
        · exact ⟨_, rfl, by decide, by decide⟩
        · exact ⟨_, rfl, by decide, by decide⟩
        · exact ⟨_, rfl, by omega, by omega⟩
        · exact ⟨_, rfl, by omega, by omega⟩
      refine ⟨r6, _, _, rfl, rfl, h6, ?_⟩
      repeat walk_at "fw"
      refine ⟨ds6, 20, rfl, w6, by decide, by decide, fun ds7 r7 w7 a7 b7 => ?_⟩
      walk_at "fwD"
      repeat walk_at "fw"
      refine ⟨ds7, 2, rfl, w7, by decide, by decide, fun ds8 r8 w8 a8 b8 => ?_⟩
      walk_at "fwD"
      obtain ⟨top, h8, t1, t2⟩ : ∃ top : Int, atI [D.int 20, .int 1000] r8 = some (.int top) ∧ 0 < top ∧ top ≤ 1000 := by
        have z : r8 = 0 ∨ r8 = 1 := by omega
        rcases z with rfl | rfl
        · exact ⟨_, rfl, by decide, by decide⟩
        · exact ⟨_, rfl, by decide, by decide⟩
      refine ⟨r8, _, _, rfl, rfl, h8, ?_⟩
      repeat walk_at "fw"
      refine ⟨ds8, top, rfl, w8, t1, by omega, fun ds9 r9 w9 a9 b9 => ?_⟩
      walk_at "fwD"
      repeat walk_at "fw"
      refine q ds9 (.pu nm own lft (1 + r7) rgt (1 + r9)) w9 ⟨ok nm (by simp), o1, o2, okl, by omega, by omega, okr, by omega, by omega⟩ (by show lft.nw + rgt.nw = m; omega) ?_
      have pe : (Hg.pu nm own lft (1 + r7) rgt (1 + r9)).names = nm :: (lft.names ++ rgt.names) := by simp [Hg.names, Hg.things, Hg.nm]
      rw [pe]
      refine (List.Perm.cons nm ((perl.append perr).trans List.perm_append_comm)).trans ?_
      exact (List.perm_append_comm (l₁ := [nm]) (l₂ := va ++ vb))
end

end KW

set_option Elab.async false
set_option linter.all false
set_option maxRecDepth 100000
set_option maxHeartbeats 4000000
namespace KW
open PySem PySem.Spec L2 FW
/-- the walk over data, a rule a step -/
local macro_rules | `(tactic| walk_at "fwS") => `(tactic| first
  | with_reducible refine b_cons ?_
  | with_reducible refine b_nil ?_
  | with_reducible refine s_if ?_
  | ((with_reducible refine' s_retO (by assumption) ?hr ?_); (case hr => with_unfolding_all rfl))
  | with_reducible refine s_ret ?_
  | ((with_reducible refine' s_par (by assumption) (by assumption) (by assumption) (by assumption) (by assumption) ?_ ?h1 ?h2 ?h3 ?h4 ?h5 ?h6 ?h7 ?h8); (case h1 => decide); (case h2 => rfl); (case h3 => decide); (case h4 => rfl); (case h5 => rfl); (case h6 => decide); (case h7 => decide); (case h8 => rfl))
  | ((with_reducible refine' s_expr ?_ ?hs); (case hs => rfl))
  | ((with_reducible show GoS _ (.Assign _ (.List _ _) _) _ _); (with_reducible refine' s_setO (by assumption) ?_ ?hs); (case hs => rfl))
  | ((with_reducible show GoS _ (.Assign [.Subscript _ _ _] _ _) _ _); (refine s_setIx (by assumption) (by with_unfolding_all rfl) ?_))
  | ((with_reducible refine' s_set (by assumption) ?_ ?hs); (case hs => with_unfolding_all rfl)))
local macro_rules | `(tactic| walk_at "fwV") => `(tactic| first
  | ((with_reducible refine' g_var (by assumption) ?hr ?_); (case hr => with_unfolding_all rfl))
  | with_reducible refine g_int ?_
  | ((with_reducible show GoV _ (.Subscript (.Name "table" _) _ _) _ _); (refine g_dix (by assumption) ?_))
  | ((with_reducible show GoV _ (.Subscript (.Call (.Name "dict" _) _ _ _) _ _) _ _); (refine g_dix (by assumption) ?_))
  | ((with_reducible refine' g_ixO (by assumption) ?ho ?_ ?hs); (case ho => with_unfolding_all rfl); (case hs => exact fun _ _ => rfl))
  | ((with_reducible refine' g_ix ?_ ?hs); (case hs => exact fun _ _ => rfl))
  | ((with_reducible show GoV _ (.BinOp (.List _ _) .Add _ _) _ _); (with_reducible refine v_e ?_); (with_reducible refine g_catL ?_))
  | ((with_reducible show GoV _ (.BinOp (.BinOp (.List _ _) .Add _ _) .Add _ _) _ _); (with_reducible refine v_e ?_); (with_reducible refine g_catL ?_))
  | with_reducible refine g_catT (b := .Tuple _ _ _) ?_
  | with_reducible refine g_add ?_
  | with_reducible refine g_mul ?_
  | with_reducible refine g_sub ?_
  | with_reducible refine g_tup ?_
  | ((with_reducible refine' g_lenSet (by assumption) (by assumption) (by assumption) ?_ ?h1); (case h1 => rfl))
  | ((with_reducible refine' g_lenO (by assumption) (by assumption) ?ho ?_ ?h1 ?h2 ?h3); (case ho => with_unfolding_all rfl); (case h1 => rfl); (case h2 => rfl); (case h3 => rfl))
  | ((with_reducible refine' g_len (by assumption) ?_ ?h1 ?h2); (case h1 => rfl); (case h2 => rfl))
  | with_reducible refine g_str ?_
  | with_reducible refine g_bl ?_
  | with_reducible refine g_non ?_
  | with_reducible refine g_glob (by assumption) ?_
  | with_reducible refine g_bltn (by assumption) ?_
  | with_reducible refine g_mod ?_
  | ((with_reducible refine' g_append (by assumption) ?ho ?_ ?h1 ?h2 ?h3); (case ho => with_unfolding_all rfl); (case h1 => exact ⟨rfl, rfl, rfl⟩); (case h2 => rfl); (case h3 => rfl))
  | ((with_reducible refine' g_popAt (by assumption) ?ho ?_ ?h1 ?h2 ?h3); (case ho => with_unfolding_all rfl); (case h1 => exact ⟨rfl, rfl, rfl⟩); (case h2 => rfl); (case h3 => rfl))
  | with_reducible refine g_fdiv ?_
  | with_reducible refine g_pow ?_
  | with_reducible refine g_neg ?_
  | ((with_reducible refine' g_abs (by assumption) ?_ ?h1 ?h2); (case h1 => rfl); (case h2 => rfl))
  | ((with_reducible refine' g_all ?hc (by assumption) ?_ ?h1 ?h2); (case hc => exact Ct.calm (by assumption)); (case h1 => rfl); (case h2 => rfl))
  | ((with_reducible refine' g_chain2 ?_ ?hm); (case hm => with_unfolding_all rfl))
  | ((with_reducible refine' g_get2 (by assumption) ?_ ?hm); (case hm => exact ⟨rfl, rfl, rfl, rfl⟩))
  | ((with_reducible refine' g_slT ?_))
  | with_reducible refine g_eqX (by assumption) ?_
  | with_reducible refine g_neX (by assumption) ?_
  | with_reducible refine g_isN ?_
  | ((with_reducible refine' g_isi (T := "") (C := "") (by assumption) ?_ ?h1 ?h2 ?h3); (case h1 => rfl); (case h2 => rfl); (case h3 => rfl))
  | with_reducible refine g_ifx ?_
  | with_reducible refine g_lt ?_
  | with_reducible refine g_le ?_
  | with_reducible refine g_gt ?_
  | with_reducible refine g_and ?_
  | with_reducible refine g_or ?_
  | with_reducible refine g_one ?_
  | with_reducible refine g_not ?_)
local macro_rules | `(tactic| walk_at "fwE") => `(tactic| first
  | ((with_reducible refine' g_call (by assumption) ?_ ?h1 ?h2); (case h1 => rfl); (case h2 => rfl))
  | ((with_reducible show GoE _ (.BinOp (.List _ _) .Add _ _) _ _); (with_reducible refine g_catL ?_))
  | ((with_reducible show GoE _ (.BinOp (.BinOp (.List _ _) .Add _ _) .Add _ _) _ _); (with_reducible refine g_catL ?_))
  | with_reducible refine g_lst ?_
  | with_reducible refine g_dnew ?_
  | ((with_reducible refine' g_sorted (by assumption) (by assumption) ?_ ?h1 ?h2); (case h1 => rfl); (case h2 => rfl))
  | ((with_reducible refine' g_dict (by assumption) (by assumption) ?_ ?h1 ?h2); (case h1 => rfl); (case h2 => rfl)))
local macro_rules | `(tactic| walk_at "fwT") => `(tactic| first
  | with_reducible refine t_lt ?_
  | with_reducible refine t_le ?_
  | with_reducible refine t_gt ?_
  | with_reducible refine t_ge ?_
  | with_reducible refine t_notN ?_
  | with_reducible refine t_isN ?_
  | ((with_reducible refine' t_nin ?_ ?hm); (case hm => rfl))
  | ((with_reducible refine' t_in ?_ ?hm); (case hm => rfl))
  | ((with_reducible refine' t_chain2 ?_ ?hm); (case hm => with_unfolding_all rfl))
  | with_reducible refine t_isnB ?_
  | with_reducible refine t_neX (by assumption) ?_
  | with_reducible refine t_eqX (by assumption) ?_
  | with_reducible refine t_not ?_
  | with_reducible refine t_and ?_
  | with_reducible refine t_or ?_
  | with_reducible refine w_and ?_
  | with_reducible refine w_and1 ?_
  | with_reducible refine w_or ?_
  | with_reducible refine w_or1 ?_
  | ((with_reducible refine' t_val ?_ ?h); (case h => intro _; rfl)))
local macro_rules | `(tactic| walk_at "fwA") => `(tactic| first
  | ((with_reducible refine' a_cons ?_ ?hs); (case hs => rfl))
  | with_reducible refine a_nil ?_
  | ((with_reducible refine' l_own (by assumption) ?ho ?_ ?hs); (case ho => exact ⟨_, _, rfl⟩); (case hs => rfl))
  | ((with_reducible refine' l_cons ?_ ?hs); (case hs => rfl))
  | with_reducible refine l_nil ?_)
local macro_rules | `(tactic| walk_at "fwX") => `(tactic| first
  | ((with_reducible refine' exIx ?h1 ?h2 ?h3 ?_); (case h1 => rfl); (case h2 => rfl); (case h3 => rfl))
  | ((with_reducible refine' exLen (n := 2) ?h1 ?_); (case h1 => rfl))
  | ((with_reducible refine' exLen (n := 6) ?h1 ?_); (case h1 => rfl))
  | ((with_reducible refine' exLen ?h1 ?_); (case h1 => rfl))
  | ((with_reducible refine' exIsi ?h1 ?h2 ?h3 ?_); (case h1 => rfl); (case h2 => rfl); (case h3 => rfl))
  | ((with_reducible refine' exIn ?h1 ?h2 ?h3 ?_); (case h1 => rfl); (case h2 => rfl); (case h3 => rfl))
  | ((with_reducible refine' bT ?h1 ?_); (case h1 => decide))
  | ((with_reducible refine' bF ?h1 ?_); (case h1 => decide))
  | ((with_reducible refine' exIxO ?h1 ?h2 ?h3 ?_); (case h1 => rfl); (case h2 => rfl); (case h3 => rfl))
  | ((with_reducible refine' exSet ?h1 ?h2 ?h3 ?_); (case h1 => rfl); (case h2 => rfl); (case h3 => rfl); (dsimp only [List.set_cons_zero, List.set_cons_succ]))
  | ((with_reducible refine' exOwn ?h1 ?_); (case h1 => exact ⟨_, _, rfl⟩))
  | with_reducible refine ⟨_, eqOk_int, ?_⟩
  | with_reducible refine ⟨_, eqOk_str, ?_⟩
  | with_reducible refine ⟨_, eqOk_fr, ?_⟩
  | with_reducible refine ⟨_, eqOk_bl, ?_⟩
  | ((with_reducible refine' leL ?h1 ?_); (case h1 => rfl))
  | ((with_reducible show npar _ _ = true ∧ _); (refine ⟨rfl, ?_⟩); (try dsimp only [List.set_cons_zero, List.set_cons_succ, A.loc]))
  | ((with_reducible show List.Nodup _ ∧ _); first | refine ⟨.nil, ?_⟩ | refine ⟨(by dsimp only [slots]; decide), ?_⟩)
  | with_reducible refine ⟨_, rfl, ?_⟩)
/-- behind a call: what was given back -/
local macro_rules | `(tactic| walk_at "fwD") => `(tactic| dsimp only [give, lend, lend1, slots, flag, A.frz, O.frz, A.loc, List.getElem?_cons_zero, List.getElem?_cons_succ, List.set_cons_zero, List.set_cons_succ])
local macro_rules | `(tactic| walk_at "fw") => `(tactic| first
  | ((with_reducible show GoV _ _ _ _); first
    | walk_at "fwV"
    | ((with_reducible refine v_e ?_); walk_at "fwE"))
  | ((with_reducible show GoE _ _ _ _); first
    | walk_at "fwE"
    | ((with_reducible refine e_v ?_); walk_at "fwV"))
  | ((with_reducible show WT _ _ _ _); walk_at "fwT")
  | ((with_reducible show WS _ _ _ _); walk_at "fwS")
  | walk_at "fwA"
  | walk_at "fwX")

section
variable {P : Program} {w : World} {K : PySem.W.Frag} {mg : Str → Option Value} {base : Heap}
def pool : List Str := ["al", "bo", "cy", "di", "ed", "fay", "gus", "hal", "ida", "jo", "kit", "lou", "may", "ned", "otto"]
theorem pool_ok : ∀ s ∈ pool, NmOk s := by
  have h : ∀ s ∈ pool, (decide (1 ≤ s.length) && decide (s.length ≤ 8) && s.cps.toList.all fun c => letters.cps.toList.contains c) = true := by decide +kernel
  intro s hs
  have h1 := h s hs
  simp only [Bool.and_eq_true, decide_eq_true_eq, List.all_eq_true] at h1
  exact ⟨h1.1.1, h1.1.2, fun c hc => by simpa using h1.2 c hc⟩
theorem pool_nd : pool.Nodup := by decide +kernel
theorem erase_map {α β : Type} (f : α → β) : ∀ (l : List α) (j : Nat), (l.eraseIdx j).map f = (l.map f).eraseIdx j
  | [], _ => rfl
  | _ :: _, 0 => rfl
  | x :: l, j + 1 => by simp [erase_map f l j]
theorem erase_perm {α : Type} : ∀ {l : List α} {j : Nat} (h : j < l.length), ([l[j]] ++ l.eraseIdx j).Perm l
  | x :: l, 0, _ => List.Perm.refl _
  | x :: l, j + 1, h => by
    have h' : j < l.length := by simpa using h
    have ih := erase_perm h'
    show (l[j] :: x :: l.eraseIdx j).Perm (x :: l)
    exact (List.Perm.swap _ _ _).trans (List.Perm.cons x ih)
def spHanging : FSp := fun as R _ => ∃ (ds : List D) (top : Int), as = [.own true (.lst ds), .val (.int top)] ∧ WOk ds ∧ 1 ≤ top ∧ top ≤ 8 ∧
  ∀ (ds' : List D) (h : Hg), WOk ds' → h.Ok → (h.nw : Int) ≤ top → h.names.Nodup → (∀ s ∈ h.names, s ∈ pool) → R [.own true (.lst ds'), .val (.int top)] (.val h.d)
theorem g__law_hanging (T : Txt K mg) : GDef P w K mg base "_law_hanging" 13 spHanging := gdef T.d__law_hanging fun f fd F => by
  refine fok F sc__law_hanging (fun as R RX ⟨_, _, e, _⟩ => by subst e; rfl) fun g as R RX hg ⟨ds, top, e, wo, t1, t8, q⟩ => ?_
  subst e
  obtain ⟨v_well, v_top, v_names, v_drawn, w_well, w_top, w_names, w_drawn, l_well, l_top, l_names, l_drawn, b_len, ct⟩ := fx__law_hanging T hg
  have c1 := ca__law_hanging__law_hung hg (g__law_hung T 8) (by omega)
  have c2 := ca__law_hanging__law_take hg (g__law_take T) (by omega)
  conv => arg 2; whnf
  show GoB g _ [some (.own true (.lst ds)), some (.val (.int top)), none, none] _
  walk_at "fw"
  walk_at "fw"
  walk_at "fw"
  repeat walk_at "fw"
  refine s_while ct (fun m ρ => ∃ (ds : List D) (ns dr : List Str), ρ = [some (.own true (.lst ds)), some (.val (.int top)), some (.own false (.lst (ns.map .str))), some (.own false (.lst (dr.map .str)))] ∧ WOk ds ∧ (dr ++ ns).Perm pool ∧ m = ns.length) 15 ⟨ds, pool, [], rfl, wo, List.Perm.refl _, rfl⟩ ?_
  rintro m _ ⟨ds, ns, dr, rfl, wo, pm, rfl⟩
  have all : ∀ s, s ∈ dr ∨ s ∈ ns → s ∈ pool := fun s hs => pm.mem_iff.mp (List.mem_append.mpr hs)
  have len := pm.length_eq
  rw [List.length_append] at len
  have len15 : pool.length = 15 := rfl
  refine t_peek (i := 2) rfl ?_
  repeat walk_at "fw"
  refine ⟨_, eqOk_nil fun s hs => pool_ok s (all s (.inr hs)), ?_⟩
  refine ⟨fun h => ?_, fun h => ?_⟩
  · have hn : ns ≠ [] := by simpa using h
    have hl : 0 < ns.length := List.length_pos_iff.mpr hn
    repeat walk_at "fw"
    refine ⟨ds, _, rfl, wo, by simp; omega, by simp; omega, fun ds1 r1 w1 a1 b1 => ?_⟩
    walk_at "fwD"
    have hk : r1.toNat < ns.length := by simp at b1; omega
    refine ⟨r1, _, _, .str ns[r1.toNat], rfl, rfl, a1, by simp at b1; omega, by simp [List.getElem?_eq_getElem hk], ?_⟩
    try dsimp only [List.set_cons_zero, List.set_cons_succ]
    refine ⟨_, _, rfl, by simp; omega, ?_⟩
    try dsimp only [List.set_cons_zero, List.set_cons_succ]
    repeat walk_at "fw"
    refine ⟨_, ?_, ds1, ns.eraseIdx r1.toNat, dr ++ [ns[r1.toNat]], ?_, w1, ?_, rfl⟩
    · rw [List.length_eraseIdx, if_pos hk]; omega
    · rw [List.map_append, erase_map]; rfl
    · rw [List.append_assoc]
      exact (List.Perm.append_left dr (erase_perm hk)).trans pm
  · have hn : ns = [] := by simpa using h
    subst hn
    rw [List.append_nil] at pm
    have nd : dr.Nodup := pm.nodup_iff.mpr pool_nd
    repeat walk_at "fw"
    refine ⟨ds, top, rfl, wo, by omega, by omega, fun ds1 r1 w1 a1 b1 => ?_⟩
    walk_at "fwD"
    repeat walk_at "fw"
    obtain ⟨m, hm⟩ : ∃ m : Nat, (1 + r1 : Int) = m := ⟨(1 + r1).toNat, by omega⟩
    rw [hm]
    obtain ⟨us, vs, ev, hvs⟩ := split_at dr (2 * m - 1) (by simp at len; omega)
    subst ev
    refine ⟨ds1, m, us, vs, rfl, w1, by omega, by omega, by omega, by omega, by simp at len ⊢; omega, fun s hs => pool_ok s (all s (.inl (by simp [hs]))), fun ds2 h w2 okh nwh perh => ?_⟩
    refine q ds2 h w2 okh (by omega) (perh.nodup_iff.mpr (List.nodup_append.mp nd).2.1) fun s hs => all s (.inl (by
      have := perh.mem_iff.mp hs
      simp [this]))
end

end KW

set_option Elab.async false
set_option linter.all false
set_option maxRecDepth 100000
set_option maxHeartbeats 4000000
namespace KW
open PySem PySem.Spec L2 FW
/-- the walk over data, a rule a step -/
local macro_rules | `(tactic| walk_at "fwS") => `(tactic| first
  | with_reducible refine b_cons ?_
  | with_reducible refine b_nil ?_
  | with_reducible refine s_if ?_
  | ((with_reducible refine' s_retO (by assumption) ?hr ?_); (case hr => with_unfolding_all rfl))
  | with_reducible refine s_ret ?_
  | ((with_reducible refine' s_par (by assumption) (by assumption) (by assumption) (by assumption) (by assumption) ?_ ?h1 ?h2 ?h3 ?h4 ?h5 ?h6 ?h7 ?h8); (case h1 => decide); (case h2 => rfl); (case h3 => decide); (case h4 => rfl); (case h5 => rfl); (case h6 => decide); (case h7 => decide); (case h8 => rfl))
  | ((with_reducible refine' s_expr ?_ ?hs); (case hs => rfl))
  | ((with_reducible show GoS _ (.Assign _ (.List _ _) _) _ _); (with_reducible refine' s_setO (by assumption) ?_ ?hs); (case hs => rfl))
  | ((with_reducible show GoS _ (.Assign [.Subscript _ _ _] _ _) _ _); (refine s_setIx (by assumption) (by with_unfolding_all rfl) ?_))
  | ((with_reducible refine' s_set (by assumption) ?_ ?hs); (case hs => with_unfolding_all rfl)))
local macro_rules | `(tactic| walk_at "fwV") => `(tactic| first
  | ((with_reducible refine' g_var (by assumption) ?hr ?_); (case hr => with_unfolding_all rfl))
  | with_reducible refine g_int ?_
  | ((with_reducible show GoV _ (.Subscript (.Name "table" _) _ _) _ _); (refine g_dix (by assumption) ?_))
  | ((with_reducible show GoV _ (.Subscript (.Call (.Name "dict" _) _ _ _) _ _) _ _); (refine g_dix (by assumption) ?_))
  | ((with_reducible refine' g_ixO (by assumption) ?ho ?_ ?hs); (case ho => with_unfolding_all rfl); (case hs => exact fun _ _ => rfl))
  | ((with_reducible refine' g_ix ?_ ?hs); (case hs => exact fun _ _ => rfl))
  | ((with_reducible show GoV _ (.BinOp (.List _ _) .Add _ _) _ _); (with_reducible refine v_e ?_); (with_reducible refine g_catL ?_))
  | ((with_reducible show GoV _ (.BinOp (.BinOp (.List _ _) .Add _ _) .Add _ _) _ _); (with_reducible refine v_e ?_); (with_reducible refine g_catL ?_))
  | with_reducible refine g_catT (b := .Tuple _ _ _) ?_
  | with_reducible refine g_add ?_
  | with_reducible refine g_mul ?_
  | with_reducible refine g_sub ?_
  | with_reducible refine g_tup ?_
  | ((with_reducible refine' g_lenSet (by assumption) (by assumption) (by assumption) ?_ ?h1); (case h1 => rfl))
  | ((with_reducible refine' g_lenO (by assumption) (by assumption) ?ho ?_ ?h1 ?h2 ?h3); (case ho => with_unfolding_all rfl); (case h1 => rfl); (case h2 => rfl); (case h3 => rfl))
  | ((with_reducible refine' g_len (by assumption) ?_ ?h1 ?h2); (case h1 => rfl); (case h2 => rfl))
  | with_reducible refine g_str ?_
  | with_reducible refine g_bl ?_
  | with_reducible refine g_non ?_
  | with_reducible refine g_glob (by assumption) ?_
  | with_reducible refine g_bltn (by assumption) ?_
  | with_reducible refine g_mod ?_
  | ((with_reducible refine' g_append (by assumption) ?ho ?_ ?h1 ?h2 ?h3); (case ho => with_unfolding_all rfl); (case h1 => exact ⟨rfl, rfl, rfl⟩); (case h2 => rfl); (case h3 => rfl))
  | ((with_reducible refine' g_popAt (by assumption) ?ho ?_ ?h1 ?h2 ?h3); (case ho => with_unfolding_all rfl); (case h1 => exact ⟨rfl, rfl, rfl⟩); (case h2 => rfl); (case h3 => rfl))
  | with_reducible refine g_fdiv ?_
  | with_reducible refine g_pow ?_
  | with_reducible refine g_neg ?_
  | ((with_reducible refine' g_abs (by assumption) ?_ ?h1 ?h2); (case h1 => rfl); (case h2 => rfl))
  | ((with_reducible refine' g_all ?hc (by assumption) ?_ ?h1 ?h2); (case hc => exact Ct.calm (by assumption)); (case h1 => rfl); (case h2 => rfl))
  | ((with_reducible refine' g_chain2 ?_ ?hm); (case hm => with_unfolding_all rfl))
  | ((with_reducible refine' g_get2 (by assumption) ?_ ?hm); (case hm => exact ⟨rfl, rfl, rfl, rfl⟩))
  | ((with_reducible refine' g_slT ?_))
  | with_reducible refine g_eqX (by assumption) ?_
  | with_reducible refine g_neX (by assumption) ?_
  | with_reducible refine g_isN ?_
  | ((with_reducible refine' g_isi (T := "") (C := "") (by assumption) ?_ ?h1 ?h2 ?h3); (case h1 => rfl); (case h2 => rfl); (case h3 => rfl))
  | with_reducible refine g_ifx ?_
  | with_reducible refine g_lt ?_
  | with_reducible refine g_le ?_
  | with_reducible refine g_gt ?_
  | with_reducible refine g_and ?_
  | with_reducible refine g_or ?_
  | with_reducible refine g_one ?_
  | with_reducible refine g_not ?_)
local macro_rules | `(tactic| walk_at "fwE") => `(tactic| first
  | ((with_reducible refine' g_call (by assumption) ?_ ?h1 ?h2); (case h1 => rfl); (case h2 => rfl))
  | ((with_reducible show GoE _ (.BinOp (.List _ _) .Add _ _) _ _); (with_reducible refine g_catL ?_))
  | ((with_reducible show GoE _ (.BinOp (.BinOp (.List _ _) .Add _ _) .Add _ _) _ _); (with_reducible refine g_catL ?_))
  | with_reducible refine g_lst ?_
  | with_reducible refine g_dnew ?_
  | ((with_reducible refine' g_sorted (by assumption) (by assumption) ?_ ?h1 ?h2); (case h1 => rfl); (case h2 => rfl))
  | ((with_reducible refine' g_dict (by assumption) (by assumption) ?_ ?h1 ?h2); (case h1 => rfl); (case h2 => rfl)))
local macro_rules | `(tactic| walk_at "fwT") => `(tactic| first
  | with_reducible refine t_lt ?_
  | with_reducible refine t_le ?_
  | with_reducible refine t_gt ?_
  | with_reducible refine t_ge ?_
  | with_reducible refine t_notN ?_
  | with_reducible refine t_isN ?_
  | ((with_reducible refine' t_nin ?_ ?hm); (case hm => rfl))
  | ((with_reducible refine' t_in ?_ ?hm); (case hm => rfl))
  | ((with_reducible refine' t_chain2 ?_ ?hm); (case hm => with_unfolding_all rfl))
  | with_reducible refine t_isnB ?_
  | with_reducible refine t_neX (by assumption) ?_
  | with_reducible refine t_eqX (by assumption) ?_
  | with_reducible refine t_not ?_
  | with_reducible refine t_and ?_
  | with_reducible refine t_or ?_
  | with_reducible refine w_and ?_
  | with_reducible refine w_and1 ?_
  | with_reducible refine w_or ?_
  | with_reducible refine w_or1 ?_
  | ((with_reducible refine' t_val ?_ ?h); (case h => intro _; rfl)))
local macro_rules | `(tactic| walk_at "fwA") => `(tactic| first
  | ((with_reducible refine' a_cons ?_ ?hs); (case hs => rfl))
  | with_reducible refine a_nil ?_
  | ((with_reducible refine' l_own (by assumption) ?ho ?_ ?hs); (case ho => exact ⟨_, _, rfl⟩); (case hs => rfl))
  | ((with_reducible refine' l_cons ?_ ?hs); (case hs => rfl))
  | with_reducible refine l_nil ?_)
local macro_rules | `(tactic| walk_at "fwX") => `(tactic| first
  | ((with_reducible refine' exIx ?h1 ?h2 ?h3 ?_); (case h1 => rfl); (case h2 => rfl); (case h3 => rfl))
  | ((with_reducible refine' exLen (n := 2) ?h1 ?_); (case h1 => rfl))
  | ((with_reducible refine' exLen (n := 6) ?h1 ?_); (case h1 => rfl))
  | ((with_reducible refine' exLen ?h1 ?_); (case h1 => rfl))
  | ((with_reducible refine' exIsi ?h1 ?h2 ?h3 ?_); (case h1 => rfl); (case h2 => rfl); (case h3 => rfl))
  | ((with_reducible refine' exIn ?h1 ?h2 ?h3 ?_); (case h1 => rfl); (case h2 => rfl); (case h3 => rfl))
  | ((with_reducible refine' bT ?h1 ?_); (case h1 => decide))
  | ((with_reducible refine' bF ?h1 ?_); (case h1 => decide))
  | ((with_reducible refine' exIxO ?h1 ?h2 ?h3 ?_); (case h1 => rfl); (case h2 => rfl); (case h3 => rfl))
  | ((with_reducible refine' exSet ?h1 ?h2 ?h3 ?_); (case h1 => rfl); (case h2 => rfl); (case h3 => rfl); (dsimp only [List.set_cons_zero, List.set_cons_succ]))
  | ((with_reducible refine' exOwn ?h1 ?_); (case h1 => exact ⟨_, _, rfl⟩))
  | with_reducible refine ⟨_, eqOk_int, ?_⟩
  | with_reducible refine ⟨_, eqOk_str, ?_⟩
  | with_reducible refine ⟨_, eqOk_fr, ?_⟩
  | with_reducible refine ⟨_, eqOk_bl, ?_⟩
  | ((with_reducible refine' leL ?h1 ?_); (case h1 => rfl))
  | ((with_reducible show npar _ _ = true ∧ _); (refine ⟨rfl, ?_⟩); (try dsimp only [List.set_cons_zero, List.set_cons_succ, A.loc]))
  | ((with_reducible show List.Nodup _ ∧ _); first | refine ⟨.nil, ?_⟩ | refine ⟨(by dsimp only [slots]; decide), ?_⟩)
  | with_reducible refine ⟨_, rfl, ?_⟩)
/-- behind a call: what was given back -/
local macro_rules | `(tactic| walk_at "fwD") => `(tactic| dsimp only [give, lend, lend1, slots, flag, A.frz, O.frz, A.loc, List.getElem?_cons_zero, List.getElem?_cons_succ, List.set_cons_zero, List.set_cons_succ])
local macro_rules | `(tactic| walk_at "fw") => `(tactic| first
  | ((with_reducible show GoV _ _ _ _); first
    | walk_at "fwV"
    | ((with_reducible refine v_e ?_); walk_at "fwE"))
  | ((with_reducible show GoE _ _ _ _); first
    | walk_at "fwE"
    | ((with_reducible refine e_v ?_); walk_at "fwV"))
  | ((with_reducible show WT _ _ _ _); walk_at "fwT")
  | ((with_reducible show WS _ _ _ _); walk_at "fwS")
  | walk_at "fwA"
  | walk_at "fwX")

section
variable {P : Program} {w : World} {K : PySem.W.Frag} {mg : Str → Option Value} {base : Heap}
theorem g__law_frac (T : Txt K mg) : GDef P w K mg base "_law_frac" 2 spFraction := gdef T.d__law_frac fun f fd F => by
  refine fok F sc__law_frac (fun as R RX ⟨a, b, e, _⟩ => by subst e; rfl) fun g as R RX hg ⟨t, b, e, hb, h1, h2, q⟩ => ?_
  subst e
  obtain ⟨v_top, v_bottom, v_one, v_other, w_top, w_bottom, w_one, w_other, l_top, l_bottom, l_one, l_other, b_abs, ct⟩ := fx__law_frac T hg
  conv => arg 2; whnf
  show GoB g _ [some (.val (.int t)), some (.val (.int b)), none, none] _
  have f1 := fdiv_num (t := t) hb
  have f2 := fdiv_den (t := t) hb
  have c2 := fun x => cfd_by (t := t) hb h2 x
  repeat walk_at "fw"
  refine ⟨_, _, rfl, rfl, rfl, ?_⟩
  try dsimp only [List.set_cons_zero, List.set_cons_succ]
  rw [abs_eq, abs_eq]
  repeat walk_at "fw"
  refine s_while ct (fun m ρ => ∃ x y : Nat, ρ = [some (.val (.int t)), some (.val (.int b)), some (.val (.int x)), some (.val (.int y))] ∧ Nat.gcd x y = Nat.gcd t.natAbs b.natAbs ∧ m = y) b.natAbs ⟨t.natAbs, b.natAbs, rfl, rfl, rfl⟩ ?_
  rintro m _ ⟨x, y, rfl, hg2, hm⟩
  repeat walk_at "fw"
  refine ⟨fun h => ?_, fun h => ?_⟩
  · have hy : 0 < y := by have := of_decide_eq_true h; omega
    repeat walk_at "fw"
    refine ⟨by omega, ?_⟩
    repeat walk_at "fw"
    refine ⟨_, _, rfl, rfl, rfl, ?_⟩
    try dsimp only [List.set_cons_zero, List.set_cons_succ]
    repeat walk_at "fw"
    exact ⟨x % y, hm ▸ Nat.mod_lt _ (by omega), y, x % y, by rw [← Int.natCast_emod], by rw [← hg2, Nat.gcd_comm x y, Nat.gcd_rec y x, Nat.gcd_comm], rfl⟩
  · have hy : y = 0 := by have := of_decide_eq_false h; omega
    subst hy
    rw [Nat.gcd_zero_right] at hg2
    subst hg2
    repeat walk_at "fw"
    refine ⟨fun h => ?_, fun h => ?_⟩
    · have s : b.sign = 1 := Int.sign_eq_one_of_pos (by simpa using h)
      rw [s, Int.mul_one] at f1 f2 c2
      repeat walk_at "fw"
      refine ⟨c2 _, ?_⟩
      repeat walk_at "fw"
      refine ⟨c2 _, ?_⟩
      repeat walk_at "fw"
      rw [f1, f2]
      exact q
    · have s : b.sign = -1 := Int.sign_eq_neg_one_of_neg (by have := of_decide_eq_false h; omega)
      rw [s, show ((Nat.gcd t.natAbs b.natAbs : Nat) : Int) * -1 = -((Nat.gcd t.natAbs b.natAbs : Nat) : Int) by omega] at f1 f2 c2
      repeat walk_at "fw"
      refine ⟨c2 _, ?_⟩
      repeat walk_at "fw"
      refine ⟨c2 _, ?_⟩
      repeat walk_at "fw"
      rw [f1, f2]
      exact q
theorem g__law_plus (T : Txt K mg) : GDef P w K mg base "_law_plus" 3 (spTwo (· + ·) (fun _ _ => True)) := gdef T.d__law_plus fun f fd F => by
  refine fok F sc__law_plus (fun as R RX ⟨a, b, e, _⟩ => by subst e; rfl) fun g as R RX hg ⟨p, r, e, ⟨p1, p2'⟩, ⟨r1, r2'⟩, hC, q⟩ => ?_
  subst e
  obtain ⟨v_one, v_other, w_one, w_other, l_one, l_other, ct⟩ := fx__law_plus T hg
  have c1 := ca__law_plus__law_frac hg (g__law_frac T)
  have p2 : ((p.den : Int)).natAbs < 2 ^ 3000 := by rw [Int.natAbs_natCast]; exact p2'
  have r2 : ((r.den : Int)).natAbs < 2 ^ 3000 := by rw [Int.natAbs_natCast]; exact r2'
  have d1 : (p.den : Int) ≠ 0 := by have := p.den_nz; omega
  have d2 : (r.den : Int) ≠ 0 := by have := r.den_nz; omega
  conv => arg 2; whnf
  show GoB g _ [some (.val (fr p)), some (.val (fr r))] _
  repeat walk_at "fw"
  refine ⟨mulW p1 r2 (by decide), ?_⟩
  repeat walk_at "fw"
  refine ⟨mulW r1 p2 (by decide), ?_⟩
  repeat walk_at "fw"
  refine ⟨mulW p2 r2 (by decide), ?_⟩
  repeat walk_at "fw"
  refine ⟨_, _, rfl, Int.mul_ne_zero d1 d2, add_lt (mul_lt p1 r2 (Nat.le_refl _)) (mul_lt r1 p2 (Nat.le_refl _)) (by decide), mul_lt p2 r2 (by decide), ?_⟩
  rw [plus_eq]
  exact q
theorem g__law_by (T : Txt K mg) : GDef P w K mg base "_law_by" 3 (spTwo (· / ·) (fun _ q => q ≠ 0)) := gdef T.d__law_by fun f fd F => by
  refine fok F sc__law_by (fun as R RX ⟨a, b, e, _⟩ => by subst e; rfl) fun g as R RX hg ⟨p, r, e, ⟨p1, p2'⟩, ⟨r1, r2'⟩, hC, q⟩ => ?_
  subst e
  obtain ⟨v_one, v_other, w_one, w_other, l_one, l_other, ct⟩ := fx__law_by T hg
  have c1 := ca__law_by__law_frac hg (g__law_frac T)
  have p2 : ((p.den : Int)).natAbs < 2 ^ 3000 := by rw [Int.natAbs_natCast]; exact p2'
  have r2 : ((r.den : Int)).natAbs < 2 ^ 3000 := by rw [Int.natAbs_natCast]; exact r2'
  have d1 : (p.den : Int) ≠ 0 := by have := p.den_nz; omega
  have d2 : (r.den : Int) ≠ 0 := by have := r.den_nz; omega
  conv => arg 2; whnf
  show GoB g _ [some (.val (fr p)), some (.val (fr r))] _
  repeat walk_at "fw"
  refine ⟨mulW p1 r2 (by decide), ?_⟩
  repeat walk_at "fw"
  refine ⟨mulW p2 r1 (by decide), ?_⟩
  repeat walk_at "fw"
  refine ⟨_, _, rfl, Int.mul_ne_zero d1 (fun z => hC (Rat.num_eq_zero.mp z)), mul_lt p1 r2 (by decide), mul_lt p2 r1 (by decide), ?_⟩
  rw [shared_eq]
  exact q


def spLess : FSp := fun as R _ => ∃ p q : Rat, as = [.val (fr p), .val (fr q)] ∧ Sz 3000 p ∧ Sz 3000 q ∧ R as (.val (.bl (decide (p < q))))
theorem g__law_things (T : Txt K mg) : ∀ n : Nat, GDef P w K mg base "_law_things" (n + 1) (spThings n)
  | 0 => gdef T.d__law_things fun f fd F => fok F sc__law_things (fun as R RX ⟨h, e, hn, _⟩ => (no_hg (n := 0) hn).elim) fun g as R RX hg ⟨h, e, hn, _⟩ => (no_hg (n := 0) hn).elim
  | n + 1 => gdef T.d__law_things fun f fd F => by
    refine fok F sc__law_things (fun as R RX ⟨h, e, _⟩ => by subst e; rfl) fun g as R RX hg ⟨h, e, hn, hn8, q⟩ => ?_
    subst e
    obtain ⟨v_hanging, w_hanging, l_hanging, b_len, ct⟩ := fx__law_things T hg
    have c := ca__law_things__law_things hg (g__law_things T n) (Nat.le_refl _)
    conv => arg 2; whnf
    show GoB g _ [some (.val h.d)] _
    cases h with
    | wt nm hv =>
      change GoB g _ [some (.val (.tup [.str nm, .int hv]))] _
      repeat walk_at "fw"
      exact q
    | pu nm own l a r b =>
      have e : (Hg.pu nm own l a r b).nw = l.nw + r.nw := rfl
      have hl := l.nw_pos
      have hr := r.nw_pos
      have ll := l.things_len
      have lr := r.things_len
      change GoB g _ [some (.val (.tup [.str nm, .int own, l.d, .int a, r.d, .int b]))] _
      repeat walk_at "fw"
      refine ⟨l, rfl, by omega, by omega, ?_⟩
      walk_at "fwD"
      refine ⟨_, _, rfl, rfl, by simp; omega, ?_⟩
      repeat walk_at "fw"
      refine ⟨r, rfl, by omega, by omega, ?_⟩
      walk_at "fwD"
      refine ⟨_, _, rfl, rfl, by simp; omega, ?_⟩
      rw [show [D.tup [.str nm, .int own, l.d, .int a, r.d, .int b]] ++ l.things.map Hg.d ++ r.things.map Hg.d = (Hg.pu nm own l a r b).things.map Hg.d by simp [Hg.things, Hg.d]]
      exact q
theorem felt_by (own p q : Rat) (hp : 0 < p) (hq : 0 < q) : own + 4 / (1 / p + 1 / q) = own + 4 * (p * q) / (p + q) := by
  have h1 : p * p⁻¹ = 1 := Rat.mul_inv_cancel _ (by grind)
  have h2 : q * q⁻¹ = 1 := Rat.mul_inv_cancel _ (by grind)
  have h3 : (p + q) * (p + q)⁻¹ = 1 := Rat.mul_inv_cancel _ (by grind)
  have h5 : 0 < p⁻¹ := Rat.inv_pos.mpr hp
  have h6 : 0 < q⁻¹ := Rat.inv_pos.mpr hq
  have h4 : (p⁻¹ + q⁻¹) * (p⁻¹ + q⁻¹)⁻¹ = 1 := Rat.mul_inv_cancel _ (by grind)
  have e : (p⁻¹ + q⁻¹)⁻¹ = (p * q) * (p + q)⁻¹ := by
    apply Rat.inv_eq_of_mul_eq_one
    grind
  simp only [Rat.div_def, Rat.one_mul]
  rw [e]
  grind
theorem g__law_felt (T : Txt K mg) : ∀ n : Nat, GDef P w K mg base "_law_felt" (n + 6) (spFelt n)
  | 0 => gdef T.d__law_felt fun f fd F => fok F sc__law_felt (fun as R RX ⟨h, _, _, _, e, _, _, hn, _⟩ => (no_hg (n := 0) hn).elim) fun g as R RX hg ⟨h, _, _, _, e, _, _, hn, _⟩ => (no_hg (n := 0) hn).elim
  | n + 1 => gdef T.d__law_felt fun f fd F => by
    refine fok F sc__law_felt (fun as R RX ⟨h, _, _, _, e, _⟩ => by subst e; rfl) fun g as R RX hg ⟨h, kf, ks, xs, e, kd, ok, hn, hn8, q⟩ => ?_
    subst e
    obtain ⟨v_hanging, v_known, v_one, v_other, v_both, w_hanging, w_known, w_one, w_other, w_both, l_hanging, l_known, l_one, l_other, l_both, b_len, ct⟩ := fx__law_felt T hg
    have c1 := ca__law_felt__law_felt hg (g__law_felt T n) (by omega)
    have c2 := ca__law_felt__law_by hg (g__law_by T) (by omega)
    have c3 := ca__law_felt__law_plus hg (g__law_plus T) (by omega)
    conv => arg 2; whnf
    show GoB g _ [some (.val h.d), some (.val (.dic ks xs)), none, none, none] _
    cases h with
    | wt nm hv =>
      change GoB g _ [some (.val (.tup [.str nm, .int hv])), some (.val (.dic ks xs)), none, none, none] _
      repeat walk_at "fw"
      refine ⟨_, _, rfl, ?_⟩
      repeat walk_at "fw"
      have e : (dG ks xs nm).getD (.tup [.int hv, .int 1]) = fr ((Hg.wt nm hv).F kf) := by
        rw [kd.at' nm]
        show ((kf nm).map fr).getD (fr (hv : Rat)) = fr ((kf nm).getD (hv : Rat))
        cases kf nm <;> rfl
      rw [e]
      exact q
    | pu nm own l a r b =>
      obtain ⟨o1, o2, o2', o3, o4, o4', o5, o6, o6'⟩ := ok
      have e : (Hg.pu nm own l a r b).nw = l.nw + r.nw := rfl
      have hl := l.nw_pos
      have hr := r.nw_pos
      have one : Sz 1 (1 : Rat) := sz_int (n := 1) (by decide) (by decide)
      have four : Sz 3 (4 : Rat) := sz_int (n := 4) (by decide) (by decide)
      have so : Sz 10 (own : Rat) := sz_int (by have : (2 : Nat) ^ 10 = 1024 := by decide
                                                omega) (by decide)
      have p1 := Hg.F_pos kd.ok o3
      have p2 := Hg.F_pos kd.ok o5
      have g1 := Hg.F_sz kd.ok o3
      have g2 := Hg.F_sz kd.ok o5
      have i1 : 0 < (l.F kf)⁻¹ := Rat.inv_pos.mpr p1
      have i2 : 0 < (r.F kf)⁻¹ := Rat.inv_pos.mpr p2
      have n1 : l.F kf ≠ 0 := by grind
      have n2 : r.F kf ≠ 0 := by grind
      have n3 : 1 / l.F kf + 1 / r.F kf ≠ 0 := by rw [Rat.div_def, Rat.div_def]; grind
      have h1 := one.div g1 n1 (Nat.le_refl _)
      have h2 := one.div g2 n2 (Nat.le_refl _)
      have h3 := h1.add h2 (Nat.le_refl _)
      have h4 := four.div h3 n3 (Nat.le_refl _)
      change GoB g _ [some (.val (.tup [.str nm, .int own, l.d, .int a, r.d, .int b])), some (.val (.dic ks xs)), none, none, none] _
      repeat walk_at "fw"
      refine ⟨l, kf, ks, xs, rfl, kd, o3, by omega, by omega, ?_⟩
      walk_at "fwD"
      repeat walk_at "fw"
      refine ⟨r, kf, ks, xs, rfl, kd, o5, by omega, by omega, ?_⟩
      walk_at "fwD"
      refine a_nil ⟨_, _, rfl, rfl, rfl, ?_⟩
      try dsimp only [List.set_cons_zero, List.set_cons_succ]
      repeat walk_at "fw"
      refine ⟨1, _, rfl, one.mono (by omega), g1.mono (by omega), n1, ?_⟩
      walk_at "fwD"
      repeat walk_at "fw"
      refine ⟨1, _, rfl, one.mono (by omega), g2.mono (by omega), n2, ?_⟩
      walk_at "fwD"
      repeat walk_at "fw"
      refine ⟨_, _, rfl, h1.mono (by omega), h2.mono (by omega), trivial, ?_⟩
      walk_at "fwD"
      repeat walk_at "fw"
      refine ⟨4, _, rfl, four.mono (by omega), h3.mono (by omega), n3, ?_⟩
      walk_at "fwD"
      repeat walk_at "fw"
      refine ⟨(own : Rat), _, rfl, so.mono (by omega), h4.mono (by omega), trivial, ?_⟩
      rw [show (Hg.pu nm own l a r b).F kf = (own : Rat) + 4 / (1 / l.F kf + 1 / r.F kf) from (felt_by _ _ _ p1 p2).symm] at q
      exact q
end

end KW

set_option Elab.async false
set_option linter.all false
set_option maxRecDepth 100000
set_option maxHeartbeats 4000000
namespace KW
open PySem PySem.Spec L2 FW
/-- the walk over data, a rule a step -/
local macro_rules | `(tactic| walk_at "fwS") => `(tactic| first
  | with_reducible refine b_cons ?_
  | with_reducible refine b_nil ?_
  | with_reducible refine s_if ?_
  | ((with_reducible refine' s_retO (by assumption) ?hr ?_); (case hr => with_unfolding_all rfl))
  | with_reducible refine s_ret ?_
  | ((with_reducible refine' s_par (by assumption) (by assumption) (by assumption) (by assumption) (by assumption) ?_ ?h1 ?h2 ?h3 ?h4 ?h5 ?h6 ?h7 ?h8); (case h1 => decide); (case h2 => rfl); (case h3 => decide); (case h4 => rfl); (case h5 => rfl); (case h6 => decide); (case h7 => decide); (case h8 => rfl))
  | ((with_reducible refine' s_expr ?_ ?hs); (case hs => rfl))
  | ((with_reducible show GoS _ (.Assign _ (.List _ _) _) _ _); (with_reducible refine' s_setO (by assumption) ?_ ?hs); (case hs => rfl))
  | ((with_reducible show GoS _ (.Assign [.Subscript _ _ _] _ _) _ _); (refine s_setIx (by assumption) (by with_unfolding_all rfl) ?_))
  | ((with_reducible refine' s_set (by assumption) ?_ ?hs); (case hs => with_unfolding_all rfl)))
local macro_rules | `(tactic| walk_at "fwV") => `(tactic| first
  | ((with_reducible refine' g_var (by assumption) ?hr ?_); (case hr => with_unfolding_all rfl))
  | with_reducible refine g_int ?_
  | ((with_reducible show GoV _ (.Subscript (.Name "table" _) _ _) _ _); (refine g_dix (by assumption) ?_))
  | ((with_reducible show GoV _ (.Subscript (.Call (.Name "dict" _) _ _ _) _ _) _ _); (refine g_dix (by assumption) ?_))
  | ((with_reducible refine' g_ixO (by assumption) ?ho ?_ ?hs); (case ho => with_unfolding_all rfl); (case hs => exact fun _ _ => rfl))
  | ((with_reducible refine' g_ix ?_ ?hs); (case hs => exact fun _ _ => rfl))
  | ((with_reducible show GoV _ (.BinOp (.List _ _) .Add _ _) _ _); (with_reducible refine v_e ?_); (with_reducible refine g_catL ?_))
  | ((with_reducible show GoV _ (.BinOp (.BinOp (.List _ _) .Add _ _) .Add _ _) _ _); (with_reducible refine v_e ?_); (with_reducible refine g_catL ?_))
  | with_reducible refine g_catT (b := .Tuple _ _ _) ?_
  | with_reducible refine g_add ?_
  | with_reducible refine g_mul ?_
  | with_reducible refine g_sub ?_
  | with_reducible refine g_tup ?_
  | ((with_reducible refine' g_lenSet (by assumption) (by assumption) (by assumption) ?_ ?h1); (case h1 => rfl))
  | ((with_reducible refine' g_lenO (by assumption) (by assumption) ?ho ?_ ?h1 ?h2 ?h3); (case ho => with_unfolding_all rfl); (case h1 => rfl); (case h2 => rfl); (case h3 => rfl))
  | ((with_reducible refine' g_len (by assumption) ?_ ?h1 ?h2); (case h1 => rfl); (case h2 => rfl))
  | with_reducible refine g_str ?_
  | with_reducible refine g_bl ?_
  | with_reducible refine g_non ?_
  | with_reducible refine g_glob (by assumption) ?_
  | with_reducible refine g_bltn (by assumption) ?_
  | with_reducible refine g_mod ?_
  | ((with_reducible refine' g_append (by assumption) ?ho ?_ ?h1 ?h2 ?h3); (case ho => with_unfolding_all rfl); (case h1 => exact ⟨rfl, rfl, rfl⟩); (case h2 => rfl); (case h3 => rfl))
  | ((with_reducible refine' g_popAt (by assumption) ?ho ?_ ?h1 ?h2 ?h3); (case ho => with_unfolding_all rfl); (case h1 => exact ⟨rfl, rfl, rfl⟩); (case h2 => rfl); (case h3 => rfl))
  | with_reducible refine g_fdiv ?_
  | with_reducible refine g_pow ?_
  | with_reducible refine g_neg ?_
  | ((with_reducible refine' g_abs (by assumption) ?_ ?h1 ?h2); (case h1 => rfl); (case h2 => rfl))
  | ((with_reducible refine' g_all ?hc (by assumption) ?_ ?h1 ?h2); (case hc => exact Ct.calm (by assumption)); (case h1 => rfl); (case h2 => rfl))
  | ((with_reducible refine' g_chain2 ?_ ?hm); (case hm => with_unfolding_all rfl))
  | ((with_reducible refine' g_get2 (by assumption) ?_ ?hm); (case hm => exact ⟨rfl, rfl, rfl, rfl⟩))
  | ((with_reducible refine' g_slT ?_))
  | with_reducible refine g_eqX (by assumption) ?_
  | with_reducible refine g_neX (by assumption) ?_
  | with_reducible refine g_isN ?_
  | ((with_reducible refine' g_isi (T := "") (C := "") (by assumption) ?_ ?h1 ?h2 ?h3); (case h1 => rfl); (case h2 => rfl); (case h3 => rfl))
  | with_reducible refine g_ifx ?_
  | with_reducible refine g_lt ?_
  | with_reducible refine g_le ?_
  | with_reducible refine g_gt ?_
  | with_reducible refine g_and ?_
  | with_reducible refine g_or ?_
  | with_reducible refine g_one ?_
  | with_reducible refine g_not ?_)
local macro_rules | `(tactic| walk_at "fwE") => `(tactic| first
  | ((with_reducible refine' g_call (by assumption) ?_ ?h1 ?h2); (case h1 => rfl); (case h2 => rfl))
  | ((with_reducible show GoE _ (.BinOp (.List _ _) .Add _ _) _ _); (with_reducible refine g_catL ?_))
  | ((with_reducible show GoE _ (.BinOp (.BinOp (.List _ _) .Add _ _) .Add _ _) _ _); (with_reducible refine g_catL ?_))
  | with_reducible refine g_lst ?_
  | with_reducible refine g_dnew ?_
  | ((with_reducible refine' g_sorted (by assumption) (by assumption) ?_ ?h1 ?h2); (case h1 => rfl); (case h2 => rfl))
  | ((with_reducible refine' g_dict (by assumption) (by assumption) ?_ ?h1 ?h2); (case h1 => rfl); (case h2 => rfl)))
local macro_rules | `(tactic| walk_at "fwT") => `(tactic| first
  | with_reducible refine t_lt ?_
  | with_reducible refine t_le ?_
  | with_reducible refine t_gt ?_
  | with_reducible refine t_ge ?_
  | with_reducible refine t_notN ?_
  | with_reducible refine t_isN ?_
  | ((with_reducible refine' t_nin ?_ ?hm); (case hm => rfl))
  | ((with_reducible refine' t_in ?_ ?hm); (case hm => rfl))
  | ((with_reducible refine' t_chain2 ?_ ?hm); (case hm => with_unfolding_all rfl))
  | with_reducible refine t_isnB ?_
  | with_reducible refine t_neX (by assumption) ?_
  | with_reducible refine t_eqX (by assumption) ?_
  | with_reducible refine t_not ?_
  | with_reducible refine t_and ?_
  | with_reducible refine t_or ?_
  | with_reducible refine w_and ?_
  | with_reducible refine w_and1 ?_
  | with_reducible refine w_or ?_
  | with_reducible refine w_or1 ?_
  | ((with_reducible refine' t_val ?_ ?h); (case h => intro _; rfl)))
local macro_rules | `(tactic| walk_at "fwA") => `(tactic| first
  | ((with_reducible refine' a_cons ?_ ?hs); (case hs => rfl))
  | with_reducible refine a_nil ?_
  | ((with_reducible refine' l_own (by assumption) ?ho ?_ ?hs); (case ho => exact ⟨_, _, rfl⟩); (case hs => rfl))
  | ((with_reducible refine' l_cons ?_ ?hs); (case hs => rfl))
  | with_reducible refine l_nil ?_)
local macro_rules | `(tactic| walk_at "fwX") => `(tactic| first
  | ((with_reducible refine' exIx ?h1 ?h2 ?h3 ?_); (case h1 => rfl); (case h2 => rfl); (case h3 => rfl))
  | ((with_reducible refine' exLen (n := 2) ?h1 ?_); (case h1 => rfl))
  | ((with_reducible refine' exLen (n := 6) ?h1 ?_); (case h1 => rfl))
  | ((with_reducible refine' exLen ?h1 ?_); (case h1 => rfl))
  | ((with_reducible refine' exIsi ?h1 ?h2 ?h3 ?_); (case h1 => rfl); (case h2 => rfl); (case h3 => rfl))
  | ((with_reducible refine' exIn ?h1 ?h2 ?h3 ?_); (case h1 => rfl); (case h2 => rfl); (case h3 => rfl))
  | ((with_reducible refine' bT ?h1 ?_); (case h1 => decide))
  | ((with_reducible refine' bF ?h1 ?_); (case h1 => decide))
  | ((with_reducible refine' exIxO ?h1 ?h2 ?h3 ?_); (case h1 => rfl); (case h2 => rfl); (case h3 => rfl))
  | ((with_reducible refine' exSet ?h1 ?h2 ?h3 ?_); (case h1 => rfl); (case h2 => rfl); (case h3 => rfl); (dsimp only [List.set_cons_zero, List.set_cons_succ]))
  | ((with_reducible refine' exOwn ?h1 ?_); (case h1 => exact ⟨_, _, rfl⟩))
  | with_reducible refine ⟨_, eqOk_int, ?_⟩
  | with_reducible refine ⟨_, eqOk_str, ?_⟩
  | with_reducible refine ⟨_, eqOk_fr, ?_⟩
  | with_reducible refine ⟨_, eqOk_bl, ?_⟩
  | ((with_reducible refine' leL ?h1 ?_); (case h1 => rfl))
  | ((with_reducible show npar _ _ = true ∧ _); (refine ⟨rfl, ?_⟩); (try dsimp only [List.set_cons_zero, List.set_cons_succ, A.loc]))
  | ((with_reducible show List.Nodup _ ∧ _); first | refine ⟨.nil, ?_⟩ | refine ⟨(by dsimp only [slots]; decide), ?_⟩)
  | with_reducible refine ⟨_, rfl, ?_⟩)
/-- behind a call: what was given back -/
local macro_rules | `(tactic| walk_at "fwD") => `(tactic| dsimp only [give, lend, lend1, slots, flag, A.frz, O.frz, A.loc, List.getElem?_cons_zero, List.getElem?_cons_succ, List.set_cons_zero, List.set_cons_succ])
local macro_rules | `(tactic| walk_at "fw") => `(tactic| first
  | ((with_reducible show GoV _ _ _ _); first
    | walk_at "fwV"
    | ((with_reducible refine v_e ?_); walk_at "fwE"))
  | ((with_reducible show GoE _ _ _ _); first
    | walk_at "fwE"
    | ((with_reducible refine e_v ?_); walk_at "fwV"))
  | ((with_reducible show WT _ _ _ _); walk_at "fwT")
  | ((with_reducible show WS _ _ _ _); walk_at "fwS")
  | walk_at "fwA"
  | walk_at "fwX")

section
variable {P : Program} {w : World} {K : PySem.W.Frag} {mg : Str → Option Value} {base : Heap}
theorem g__law_minus (T : Txt K mg) : GDef P w K mg base "_law_minus" 3 (spTwo (· - ·) (fun _ _ => True)) := gdef T.d__law_minus fun f fd F => by
  refine fok F sc__law_minus (fun as R RX ⟨a, b, e, _⟩ => by subst e; rfl) fun g as R RX hg ⟨p, r, e, ⟨p1, p2'⟩, ⟨r1, r2'⟩, hC, q⟩ => ?_
  subst e
  obtain ⟨v_one, v_other, w_one, w_other, l_one, l_other, ct⟩ := fx__law_minus T hg
  have c1 := ca__law_minus__law_frac hg (g__law_frac T)
  have p2 : ((p.den : Int)).natAbs < 2 ^ 3000 := by rw [Int.natAbs_natCast]; exact p2'
  have r2 : ((r.den : Int)).natAbs < 2 ^ 3000 := by rw [Int.natAbs_natCast]; exact r2'
  have d1 : (p.den : Int) ≠ 0 := by have := p.den_nz; omega
  have d2 : (r.den : Int) ≠ 0 := by have := r.den_nz; omega
  conv => arg 2; whnf
  show GoB g _ [some (.val (fr p)), some (.val (fr r))] _
  repeat walk_at "fw"
  refine ⟨mulW p1 r2 (by decide), ?_⟩
  repeat walk_at "fw"
  refine ⟨mulW r1 p2 (by decide), ?_⟩
  repeat walk_at "fw"
  refine ⟨mulW p2 r2 (by decide), ?_⟩
  repeat walk_at "fw"
  refine ⟨_, _, rfl, Int.mul_ne_zero d1 d2, sub_lt (mul_lt p1 r2 (Nat.le_refl _)) (mul_lt r1 p2 (Nat.le_refl _)) (by decide), mul_lt p2 r2 (by decide), ?_⟩
  rw [minus_eq]
  exact q
theorem g__law_times (T : Txt K mg) : GDef P w K mg base "_law_times" 3 (spTwo (· * ·) (fun _ _ => True)) := gdef T.d__law_times fun f fd F => by
  refine fok F sc__law_times (fun as R RX ⟨a, b, e, _⟩ => by subst e; rfl) fun g as R RX hg ⟨p, r, e, ⟨p1, p2'⟩, ⟨r1, r2'⟩, hC, q⟩ => ?_
  subst e
  obtain ⟨v_one, v_other, w_one, w_other, l_one, l_other, ct⟩ := fx__law_times T hg
  have c1 := ca__law_times__law_frac hg (g__law_frac T)
  have p2 : ((p.den : Int)).natAbs < 2 ^ 3000 := by rw [Int.natAbs_natCast]; exact p2'
  have r2 : ((r.den : Int)).natAbs < 2 ^ 3000 := by rw [Int.natAbs_natCast]; exact r2'
  have d1 : (p.den : Int) ≠ 0 := by have := p.den_nz; omega
  have d2 : (r.den : Int) ≠ 0 := by have := r.den_nz; omega
  conv => arg 2; whnf
  show GoB g _ [some (.val (fr p)), some (.val (fr r))] _
  repeat walk_at "fw"
  refine ⟨mulW p1 r1 (by decide), ?_⟩
  repeat walk_at "fw"
  refine ⟨mulW p2 r2 (by decide), ?_⟩
  repeat walk_at "fw"
  refine ⟨_, _, rfl, Int.mul_ne_zero d1 d2, mul_lt p1 r1 (by decide), mul_lt p2 r2 (by decide), ?_⟩
  rw [times_eq]
  exact q
end

end KW

set_option Elab.async false
set_option linter.all false
set_option maxRecDepth 100000
set_option maxHeartbeats 4000000
namespace KW
open PySem PySem.Spec L2 FW
/-- the walk over data, a rule a step -/
local macro_rules | `(tactic| walk_at "fwS") => `(tactic| first
  | ((with_reducible refine b_cut ?_); intro _ _)
  | with_reducible refine b_sub (by assumption) ?_
  | with_reducible refine b_cons ?_
  | with_reducible refine b_nil ?_
  | with_reducible refine s_if ?_
  | ((with_reducible refine' s_retO (by assumption) ?hr ?_); (case hr => with_unfolding_all rfl))
  | with_reducible refine s_ret ?_
  | ((with_reducible refine' s_par (by assumption) (by assumption) (by assumption) (by assumption) (by assumption) ?_ ?h1 ?h2 ?h3 ?h4 ?h5 ?h6 ?h7 ?h8); (case h1 => decide); (case h2 => rfl); (case h3 => decide); (case h4 => rfl); (case h5 => rfl); (case h6 => decide); (case h7 => decide); (case h8 => rfl))
  | ((with_reducible refine' s_expr ?_ ?hs); (case hs => rfl))
  | ((with_reducible show GoS _ (.Assign _ (.List _ _) _) _ _); (with_reducible refine' s_setO (by assumption) ?_ ?hs); (case hs => rfl))
  | ((with_reducible show GoS _ (.Assign [.Subscript _ _ _] _ _) _ _); (refine s_setIx (by assumption) (by with_unfolding_all rfl) ?_))
  | ((with_reducible refine' s_set (by assumption) ?_ ?hs); (case hs => with_unfolding_all rfl)))
local macro_rules | `(tactic| walk_at "fwV") => `(tactic| first
  | ((with_reducible refine' g_var (by assumption) ?hr ?_); (case hr => with_unfolding_all rfl))
  | with_reducible refine g_int ?_
  | ((with_reducible show GoV _ (.Subscript (.Name "table" _) _ _) _ _); (refine g_dix (by assumption) ?_))
  | ((with_reducible show GoV _ (.Subscript (.Call (.Name "dict" _) _ _ _) _ _) _ _); (refine g_dix (by assumption) ?_))
  | ((with_reducible refine' g_ixO (by assumption) ?ho ?_ ?hs); (case ho => with_unfolding_all rfl); (case hs => exact fun _ _ => rfl))
  | ((with_reducible refine' g_ix ?_ ?hs); (case hs => exact fun _ _ => rfl))
  | ((with_reducible show GoV _ (.BinOp (.List _ _) .Add _ _) _ _); (with_reducible refine v_e ?_); (with_reducible refine g_catL ?_))
  | ((with_reducible show GoV _ (.BinOp (.BinOp (.List _ _) .Add _ _) .Add _ _) _ _); (with_reducible refine v_e ?_); (with_reducible refine g_catL ?_))
  | with_reducible refine g_catT (b := .Tuple _ _ _) ?_
  | with_reducible refine g_add ?_
  | with_reducible refine g_mul ?_
  | with_reducible refine g_sub ?_
  | with_reducible refine g_tup ?_
  | ((with_reducible refine' g_lenSet (by assumption) (by assumption) (by assumption) ?_ ?h1); (case h1 => rfl))
  | ((with_reducible refine' g_lenO (by assumption) (by assumption) ?ho ?_ ?h1 ?h2 ?h3); (case ho => with_unfolding_all rfl); (case h1 => rfl); (case h2 => rfl); (case h3 => rfl))
  | ((with_reducible refine' g_len (by assumption) ?_ ?h1 ?h2); (case h1 => rfl); (case h2 => rfl))
  | with_reducible refine g_str ?_
  | with_reducible refine g_bl ?_
  | with_reducible refine g_non ?_
  | with_reducible refine g_glob (by assumption) ?_
  | with_reducible refine g_bltn (by assumption) ?_
  | with_reducible refine g_mod ?_
  | ((with_reducible refine' g_append (by assumption) ?ho ?_ ?h1 ?h2 ?h3); (case ho => with_unfolding_all rfl); (case h1 => exact ⟨rfl, rfl, rfl⟩); (case h2 => rfl); (case h3 => rfl))
  | ((with_reducible refine' g_popAt (by assumption) ?ho ?_ ?h1 ?h2 ?h3); (case ho => with_unfolding_all rfl); (case h1 => exact ⟨rfl, rfl, rfl⟩); (case h2 => rfl); (case h3 => rfl))
  | with_reducible refine g_fdiv ?_
  | with_reducible refine g_pow ?_
  | with_reducible refine g_neg ?_
  | ((with_reducible refine' g_abs (by assumption) ?_ ?h1 ?h2); (case h1 => rfl); (case h2 => rfl))
  | ((with_reducible refine' g_all ?hc (by assumption) ?_ ?h1 ?h2); (case hc => exact Ct.calm (by assumption)); (case h1 => rfl); (case h2 => rfl))
  | ((with_reducible refine' g_chain2 ?_ ?hm); (case hm => with_unfolding_all rfl))
  | ((with_reducible refine' g_get2 (by assumption) ?_ ?hm); (case hm => exact ⟨rfl, rfl, rfl, rfl⟩))
  | ((with_reducible refine' g_slT ?_))
  | with_reducible refine g_eqX (by assumption) ?_
  | with_reducible refine g_neX (by assumption) ?_
  | with_reducible refine g_isN ?_
  | ((with_reducible refine' g_isi (T := "") (C := "") (by assumption) ?_ ?h1 ?h2 ?h3); (case h1 => rfl); (case h2 => rfl); (case h3 => rfl))
  | with_reducible refine g_ifx ?_
  | with_reducible refine g_lt ?_
  | with_reducible refine g_le ?_
  | with_reducible refine g_gt ?_
  | with_reducible refine g_and ?_
  | with_reducible refine g_or ?_
  | with_reducible refine g_one ?_
  | with_reducible refine g_not ?_)
local macro_rules | `(tactic| walk_at "fwE") => `(tactic| first
  | ((with_reducible refine' g_call (by assumption) ?_ ?h1 ?h2); (case h1 => rfl); (case h2 => rfl))
  | ((with_reducible show GoE _ (.BinOp (.List _ _) .Add _ _) _ _); (with_reducible refine g_catL ?_))
  | ((with_reducible show GoE _ (.BinOp (.BinOp (.List _ _) .Add _ _) .Add _ _) _ _); (with_reducible refine g_catL ?_))
  | with_reducible refine g_lst ?_
  | with_reducible refine g_dnew ?_
  | ((with_reducible refine' g_sorted (by assumption) (by assumption) ?_ ?h1 ?h2); (case h1 => rfl); (case h2 => rfl))
  | ((with_reducible refine' g_dict (by assumption) (by assumption) ?_ ?h1 ?h2); (case h1 => rfl); (case h2 => rfl)))
local macro_rules | `(tactic| walk_at "fwT") => `(tactic| first
  | with_reducible refine t_lt ?_
  | with_reducible refine t_le ?_
  | with_reducible refine t_gt ?_
  | with_reducible refine t_ge ?_
  | with_reducible refine t_notN ?_
  | with_reducible refine t_isN ?_
  | ((with_reducible refine' t_nin ?_ ?hm); (case hm => rfl))
  | ((with_reducible refine' t_in ?_ ?hm); (case hm => rfl))
  | ((with_reducible refine' t_chain2 ?_ ?hm); (case hm => with_unfolding_all rfl))
  | with_reducible refine t_isnB ?_
  | with_reducible refine t_neX (by assumption) ?_
  | with_reducible refine t_eqX (by assumption) ?_
  | with_reducible refine t_not ?_
  | with_reducible refine t_and ?_
  | with_reducible refine t_or ?_
  | with_reducible refine w_and ?_
  | with_reducible refine w_and1 ?_
  | with_reducible refine w_or ?_
  | with_reducible refine w_or1 ?_
  | ((with_reducible refine' t_val ?_ ?h); (case h => intro _; rfl)))
local macro_rules | `(tactic| walk_at "fwA") => `(tactic| first
  | ((with_reducible refine' a_cons ?_ ?hs); (case hs => rfl))
  | with_reducible refine a_nil ?_
  | ((with_reducible refine' l_own (by assumption) ?ho ?_ ?hs); (case ho => exact ⟨_, _, rfl⟩); (case hs => rfl))
  | ((with_reducible refine' l_cons ?_ ?hs); (case hs => rfl))
  | with_reducible refine l_nil ?_)
local macro_rules | `(tactic| walk_at "fwX") => `(tactic| first
  | ((with_reducible refine' exIx ?h1 ?h2 ?h3 ?_); (case h1 => rfl); (case h2 => rfl); (case h3 => rfl))
  | ((with_reducible refine' exLen (n := 2) ?h1 ?_); (case h1 => rfl))
  | ((with_reducible refine' exLen (n := 6) ?h1 ?_); (case h1 => rfl))
  | ((with_reducible refine' exLen ?h1 ?_); (case h1 => rfl))
  | ((with_reducible refine' exIsi ?h1 ?h2 ?h3 ?_); (case h1 => rfl); (case h2 => rfl); (case h3 => rfl))
  | ((with_reducible refine' exIn ?h1 ?h2 ?h3 ?_); (case h1 => rfl); (case h2 => rfl); (case h3 => rfl))
  | ((with_reducible refine' bT ?h1 ?_); (case h1 => decide))
  | ((with_reducible refine' bF ?h1 ?_); (case h1 => decide))
  | ((with_reducible refine' exIxO ?h1 ?h2 ?h3 ?_); (case h1 => rfl); (case h2 => rfl); (case h3 => rfl))
  | ((with_reducible refine' exSet ?h1 ?h2 ?h3 ?_); (case h1 => rfl); (case h2 => rfl); (case h3 => rfl); (dsimp only [List.set_cons_zero, List.set_cons_succ]))
  | ((with_reducible refine' exOwn ?h1 ?_); (case h1 => exact ⟨_, _, rfl⟩))
  | with_reducible refine ⟨_, eqOk_int, ?_⟩
  | with_reducible refine ⟨_, eqOk_str, ?_⟩
  | with_reducible refine ⟨_, eqOk_fr, ?_⟩
  | with_reducible refine ⟨_, eqOk_bl, ?_⟩
  | ((with_reducible refine' leL ?h1 ?_); (case h1 => rfl))
  | ((with_reducible show npar _ _ = true ∧ _); (refine ⟨rfl, ?_⟩); (try dsimp only [List.set_cons_zero, List.set_cons_succ, A.loc]))
  | ((with_reducible show List.Nodup _ ∧ _); first | refine ⟨.nil, ?_⟩ | refine ⟨(by dsimp only [slots]; decide), ?_⟩)
  | with_reducible refine ⟨_, rfl, ?_⟩)
/-- behind a call: what was given back -/
local macro_rules | `(tactic| walk_at "fwD") => `(tactic| dsimp only [give, lend, lend1, slots, flag, A.frz, O.frz, A.loc, List.getElem?_cons_zero, List.getElem?_cons_succ, List.set_cons_zero, List.set_cons_succ])
local macro_rules | `(tactic| walk_at "fw") => `(tactic| first
  | ((with_reducible show GoV _ _ _ _); first
    | walk_at "fwV"
    | ((with_reducible refine v_e ?_); walk_at "fwE"))
  | ((with_reducible show GoE _ _ _ _); first
    | walk_at "fwE"
    | ((with_reducible refine e_v ?_); walk_at "fwV"))
  | ((with_reducible show WT _ _ _ _); walk_at "fwT")
  | ((with_reducible show WS _ _ _ _); walk_at "fwS")
  | walk_at "fwA"
  | walk_at "fwX")
section
variable {P : Program} {w : World} {K : PySem.W.Frag} {mg : Str → Option Value} {base : Heap}
def spNames : FSp := fun as R _ => ∃ h : Hg, as = [.val h.d] ∧ h.Good ∧ R as (.own false (.lst ((sstr h.names).map .str)))
theorem hg_at0 (h : Hg) : ∃ ds, seqD h.d = some ds ∧ atI ds 0 = some (.str h.nm) := by cases h <;> exact ⟨_, rfl, rfl⟩
theorem names_ok {h : Hg} (ok : h.Ok) : ∀ s ∈ h.names, NmOk s := fun s hs => Hg.names_ok ok s hs
theorem g_names_of (T : Txt K mg) : GDef P w K mg base "names_of" 30 spNames := gdef T.d_names_of fun f fd F => by
  refine fok F sc_names_of (fun as R RX ⟨_, e, _⟩ => by subst e; rfl) fun g as R RX hg ⟨h, e, ok, q⟩ => ?_
  subst e
  obtain ⟨v_hanging, w_hanging, l_hanging, b_sorted, ct⟩ := fx_names_of T hg
  have c1 := ca_names_of_need_hanging hg (g_need_hanging T) (by omega)
  have c2 := ca_names_of_things_of hg (g_things_of T 8) (by omega)
  have ll := h.things_len
  have h8 := ok.nw
  have nl : h.names.length = h.things.length := List.length_map _
  conv => arg 2; whnf
  show GoB g _ [some (.val h.d), none] _
  repeat walk_at "fw"
  refine ⟨h, rfl, ok, ?_⟩
  walk_at "fwD"
  walk_at "fw"
  walk_at "fw"
  walk_at "fw"
  walk_at "fw"
  refine v_e (g_lc hg (own := [("one", 1)]) (by decide +kernel) (pgb_name (i := 1) hg rfl rfl) (by decide) (i_list ?_))
  repeat walk_at "fw"
  refine ⟨h, rfl, by omega, by omega, ?_⟩
  walk_at "fwD"
  refine ⟨_, rfl, by simp; omega, loopC_on Hg.d (fun x => [.str x.nm]) rfl _ _ (by simp; omega) (fun c hc => ?_) ?_⟩
  · refine gv_name rfl (.head _) fun X' bX => ⟨fun _ X'' bX => ?_, fun h => absurd h (by decide)⟩
    have hb := hg.blk bX rfl
    have v_one := hb.v (l := [("one", 1)]) (by decide +kernel) (.head _)
    cases c with
    | wt =>
      repeat walk_at "fw"
      exact ⟨rfl, rfl, rfl⟩
    | pu =>
      repeat walk_at "fw"
      exact ⟨rfl, rfl, rfl⟩
  · rw [List.nil_append, fm_map]
    have e : (h.things.map fun x => D.str x.nm) = h.names.map .str := by simp [Hg.names]
    rw [e]
    refine ⟨_, rfl, srt_ok_strs (by omega) (names_ok ok.ok), ?_⟩
    rw [srt_strs]
    exact q
def spSays : FSp := fun as R _ => ∃ a b : Bool, as = [.val (.bl a), .val (.bl b)] ∧ R as (.val (.bl (decide (a = b))))
theorem g__law_says (T : Txt K mg) : GDef P w K mg base "_law_says" 1 spSays := gdef T.d__law_says fun f fd F => by
  refine fok F sc__law_says (fun as R RX ⟨_, _, e, _⟩ => by subst e; rfl) fun g as R RX hg ⟨a, b, e, q⟩ => ?_
  subst e
  obtain ⟨v_found, v_due, w_found, w_due, l_found, l_due, b_isinstance, b_bool, ct⟩ := fx__law_says T hg
  conv => arg 2; whnf
  show GoB g _ [some (.val (.bl a)), some (.val (.bl b))] _
  repeat walk_at "fw"
  exact q
/-- how each thing speeds up, as a dict -/
def spSpeedsL (n : Nat) : FSp := fun as R _ => ∃ (h : Hg) (kf : Str → Option Rat) (ks : List Str) (xs : List D) (s : Rat), as = [.val h.d, .val (.dic ks xs), .val (fr s)] ∧ KD kf ks xs ∧ h.Ok ∧ h.names.Nodup ∧ h.nw ≤ n ∧ n ≤ 8 ∧
  Sz (2000 - 200 * n) (1 - s) ∧ Sz (2001 - 200 * n) s ∧ R as (.own false (.dic ((Hg.runsM kf h s 0).map (·.1)) ((Hg.runsM kf h s 0).map fun x => fr x.2.1)))
theorem g__law_speeds (T : Txt K mg) : ∀ n : Nat, GDef P w K mg base "_law_speeds" (n + 20) (spSpeedsL n)
  | 0 => gdef T.d__law_speeds fun f fd F => fok F sc__law_speeds (fun as R RX ⟨h, _, _, _, _, e, _, _, _, hn, _⟩ => (no_hg (n := 0) hn).elim) fun g as R RX hg ⟨h, _, _, _, _, e, _, _, _, hn, _⟩ => (no_hg (n := 0) hn).elim
  | n + 1 => gdef T.d__law_speeds fun f fd F => by
    refine fok F sc__law_speeds (fun as R RX ⟨h, _, _, _, _, e, _⟩ => by subst e; rfl) fun g as R RX hg ⟨h, kf, ks, xs, s, e, kd, ok, nd, hn, hn8, z1, z2, q⟩ => ?_
    subst e
    obtain ⟨v_hanging, v_known, v_speed, v_found, v_one, v_other, v_rest, v_both, v_end, v_beside, v_part, w_hanging, w_known, w_speed, w_found, w_one, w_other, w_rest, w_both, w_end, w_beside, w_part, l_hanging, l_known, l_speed, l_found, l_one, l_other, l_rest, l_both, l_end, l_beside, l_part, b_len, ct⟩ := fx__law_speeds T hg
    have c1 := ca__law_speeds__law_speeds hg (g__law_speeds T n) (by omega)
    have c2 := ca__law_speeds__law_felt hg (g__law_felt T 8) (by omega)
    have c3 := ca__law_speeds__law_times hg (g__law_times T) (by omega)
    have c4 := ca__law_speeds__law_by hg (g__law_by T) (by omega)
    have c5 := ca__law_speeds__law_plus hg (g__law_plus T) (by omega)
    have c6 := ca__law_speeds__law_minus hg (g__law_minus T) (by omega)
    conv => arg 2; whnf
    show GoB g _ [some (.val h.d), some (.val (.dic ks xs)), some (.val (fr s)), none, none, none, none, none, none, none, none] _
    cases h with
    | wt nm hv =>
      change GoB g _ [some (.val (.tup [.str nm, .int hv])), some (.val (.dic ks xs)), some (.val (fr s)), none, none, none, none, none, none, none, none] _
      refine b_cons (s_setO w_found (g_disp1 ?_) rfl)
      repeat walk_at "fw"
      exact q
    | pu nm own l a r b =>
      obtain ⟨o1, o2, o2', o3, o4, o4', o5, o6, o6'⟩ := ok
      have e : (Hg.pu nm own l a r b).nw = l.nw + r.nw := rfl
      have hl := l.nw_pos
      have hr := r.nw_pos
      rw [Hg.names_pu] at nd
      obtain ⟨nd1, nd2⟩ := List.nodup_cons.mp nd
      obtain ⟨nd3, nd4, nd5⟩ := List.nodup_append.mp nd2
      have one : Sz 1 (1 : Rat) := sz_int (n := 1) (by decide) (by decide)
      have two : Sz 2 (2 : Rat) := sz_int (n := 2) (by decide) (by decide)
      have f1 := Hg.F_pos kd.ok o3
      have f2 := Hg.F_pos kd.ok o5
      have g1 := Hg.F_sz kd.ok o3
      have g2 := Hg.F_sz kd.ok o5
      have n0 : l.F kf + r.F kf ≠ 0 := by grind
      obtain ⟨d1, d2, d3⟩ := Hg.sz_down kd.ok o3 o5 z1 (by omega)
      obtain ⟨sh1, sh2⟩ := Hg.share (s := s) f1 f2
      have back : ∀ q : Rat, 1 - (1 - q) = q := fun q => by grind
      have hl1 := one.sub d2 (show 1 + (2000 - 200 * (n + 1) + 180) + 1 ≤ 2001 - 200 * n by omega)
      have hr1 := one.sub d3 (show 1 + (2000 - 200 * (n + 1) + 180) + 1 ≤ 2001 - 200 * n by omega)
      have hl0 := d2.mono (show 2000 - 200 * (n + 1) + 180 ≤ 2000 - 200 * n by omega)
      have hr0 := d3.mono (show 2000 - 200 * (n + 1) + 180 ≤ 2000 - 200 * n by omega)
      rw [sh1] at hl1 hl0 d2
      rw [sh2] at hr1 hr0 d3
      have nl := Hg.runs_names kf l (1 - 2 * ((1 - s) * (r.F kf / (l.F kf + r.F kf)))) 0
      have nr := Hg.runs_names kf r (1 - 2 * ((1 - s) * (l.F kf / (l.F kf + r.F kf)))) 0
      have ll := Hg.runs_len kf l (1 - 2 * ((1 - s) * (r.F kf / (l.F kf + r.F kf)))) 0
      have lr := Hg.runs_len kf r (1 - 2 * ((1 - s) * (l.F kf / (l.F kf + r.F kf)))) 0
      change GoB g _ [some (.val (.tup [.str nm, .int own, l.d, .int a, r.d, .int b])), some (.val (.dic ks xs)), some (.val (fr s)), none, none, none, none, none, none, none, none] _
      refine b_cons (s_setO w_found (g_disp1 ?_) rfl)
      repeat walk_at "fw"
      refine ⟨l, kf, ks, xs, rfl, kd, o3, by omega, by omega, ?_⟩
      walk_at "fwD"
      repeat walk_at "fw"
      refine ⟨r, kf, ks, xs, rfl, kd, o5, by omega, by omega, ?_⟩
      walk_at "fwD"
      refine a_nil ⟨_, _, rfl, rfl, rfl, ?_⟩
      try dsimp only [List.set_cons_zero, List.set_cons_succ]
      repeat walk_at "fw"
      refine ⟨1, s, rfl, one.mono (by omega), z2.mono (by omega), trivial, ?_⟩
      walk_at "fwD"
      repeat walk_at "fw"
      have sa := g1.add g2 (Nat.le_refl _)
      refine ⟨_, _, rfl, g1.mono (by omega), g2.mono (by omega), trivial, ?_⟩
      walk_at "fwD"
      repeat walk_at "fw"
      refine s_for ct (pg_tup ct.calm (pgs_cons (pg_name w_end.nd w_end.hN w_end.hl w_end.hf) (pgs_cons (pg_name w_beside.nd w_beside.hN w_beside.hl w_beside.hf) pgs_nil))) (i_list ?_)
      repeat walk_at "fw"
      have q1 := g2.div sa n0 (Nat.le_refl _)
      have q2 := g1.div sa n0 (Nat.le_refl _)
      have t1 := z1.mul q1 (Nat.le_refl _)
      have t2 := z1.mul q2 (Nat.le_refl _)
      have u1 := two.mul t1 (Nat.le_refl _)
      have u2 := two.mul t2 (Nat.le_refl _)
      refine wg_tup rfl (wgs_cons (wg_name rfl (wgs_cons (wg_name rfl (wgs_nil ?_)))))
      try dsimp only [List.set_cons_zero, List.set_cons_succ]
      repeat walk_at "fw"
      refine ⟨_, _, rfl, g2.mono (by omega), sa.mono (by omega), n0, ?_⟩
      walk_at "fwD"
      repeat walk_at "fw"
      refine ⟨_, _, rfl, z1.mono (by omega), q1.mono (by omega), trivial, ?_⟩
      walk_at "fwD"
      repeat walk_at "fw"
      refine ⟨2, _, rfl, two.mono (by omega), t1.mono (by omega), trivial, ?_⟩
      walk_at "fwD"
      repeat walk_at "fw"
      refine e_v (g_update v_found rfl ?_)
      repeat walk_at "fw"
      refine ⟨1, _, rfl, one.mono (by omega), u1.mono (by omega), trivial, ?_⟩
      walk_at "fwD"
      repeat walk_at "fw"
      refine ⟨l, kf, ks, xs, _, rfl, kd, o3, nd3, by omega, by omega, by rw [back]; exact hl0, hl1, ?_⟩
      walk_at "fwD"
      refine ⟨_, _, _, _, _, rfl, rfl, ?_, ?_, ?_⟩
      · rw [nl]
        exact List.nodup_cons.mpr ⟨fun z => nd1 (List.mem_append.mpr (.inl z)), nd3⟩
      · simp; omega
      try dsimp only [List.set_cons_zero, List.set_cons_succ]
      repeat walk_at "fw"
      refine wg_tup rfl (wgs_cons (wg_name rfl (wgs_cons (wg_name rfl (wgs_nil ?_)))))
      try dsimp only [List.set_cons_zero, List.set_cons_succ]
      repeat walk_at "fw"
      refine ⟨_, _, rfl, g1.mono (by omega), sa.mono (by omega), n0, ?_⟩
      walk_at "fwD"
      repeat walk_at "fw"
      refine ⟨_, _, rfl, z1.mono (by omega), q2.mono (by omega), trivial, ?_⟩
      walk_at "fwD"
      repeat walk_at "fw"
      refine ⟨2, _, rfl, two.mono (by omega), t2.mono (by omega), trivial, ?_⟩
      walk_at "fwD"
      repeat walk_at "fw"
      refine e_v (g_update v_found rfl ?_)
      repeat walk_at "fw"
      refine ⟨1, _, rfl, one.mono (by omega), u2.mono (by omega), trivial, ?_⟩
      walk_at "fwD"
      repeat walk_at "fw"
      refine ⟨r, kf, ks, xs, _, rfl, kd, o5, nd4, by omega, by omega, by rw [back]; exact hr0, hr1, ?_⟩
      walk_at "fwD"
      refine ⟨_, _, _, _, _, rfl, rfl, ?_, ?_, ?_⟩
      · rw [nl, nr]
        exact nd
      · simp; omega
      try dsimp only [List.set_cons_zero, List.set_cons_succ]
      repeat walk_at "fw"
      change GoB g _ _ _
      repeat walk_at "fw"
      rw [Hg.runs_pu, List.map_cons, List.map_append, List.map_cons, List.map_append,
        Hg.runs_p (fun n _ => n) l _ (Hg.pB kf l r s) 0, Hg.runs_p (fun n _ => n) r _ (Hg.pB kf l r s) 0, Hg.runs_p (fun _ x => fr x) l _ (Hg.pB kf l r s) 0, Hg.runs_p (fun _ x => fr x) r _ (Hg.pB kf l r s) 0, Hg.sL, Hg.sR, sh1, sh2] at q
      exact q
end
end KW

set_option Elab.async false
set_option linter.all false
set_option maxRecDepth 100000
set_option maxHeartbeats 4000000
namespace KW
open PySem PySem.Spec L2 FW
/-- the walk over data, a rule a step -/
local macro_rules | `(tactic| walk_at "fwS") => `(tactic| first
  | ((with_reducible refine b_cut ?_); intro _ _)
  | with_reducible refine b_sub (by assumption) ?_
  | with_reducible refine b_cons ?_
  | with_reducible refine b_nil ?_
  | with_reducible refine s_if ?_
  | ((with_reducible refine' s_retO (by assumption) ?hr ?_); (case hr => with_unfolding_all rfl))
  | with_reducible refine s_ret ?_
  | ((with_reducible refine' s_par (by assumption) (by assumption) (by assumption) (by assumption) (by assumption) ?_ ?h1 ?h2 ?h3 ?h4 ?h5 ?h6 ?h7 ?h8); (case h1 => decide); (case h2 => rfl); (case h3 => decide); (case h4 => rfl); (case h5 => rfl); (case h6 => decide); (case h7 => decide); (case h8 => rfl))
  | ((with_reducible refine' s_expr ?_ ?hs); (case hs => rfl))
  | ((with_reducible show GoS _ (.Assign _ (.List _ _) _) _ _); (with_reducible refine' s_setO (by assumption) ?_ ?hs); (case hs => rfl))
  | ((with_reducible show GoS _ (.Assign [.Subscript _ _ _] _ _) _ _); (refine s_setIx (by assumption) (by with_unfolding_all rfl) ?_))
  | ((with_reducible refine' s_set (by assumption) ?_ ?hs); (case hs => with_unfolding_all rfl)))
local macro_rules | `(tactic| walk_at "fwV") => `(tactic| first
  | ((with_reducible refine' g_var (by assumption) ?hr ?_); (case hr => with_unfolding_all rfl))
  | with_reducible refine g_int ?_
  | ((with_reducible show GoV _ (.Subscript (.Name "table" _) _ _) _ _); (refine g_dix (by assumption) ?_))
  | ((with_reducible show GoV _ (.Subscript (.Call (.Name "dict" _) _ _ _) _ _) _ _); (refine g_dix (by assumption) ?_))
  | ((with_reducible refine' g_ixO (by assumption) ?ho ?_ ?hs); (case ho => with_unfolding_all rfl); (case hs => exact fun _ _ => rfl))
  | ((with_reducible refine' g_ix ?_ ?hs); (case hs => exact fun _ _ => rfl))
  | ((with_reducible show GoV _ (.BinOp (.List _ _) .Add _ _) _ _); (with_reducible refine v_e ?_); (with_reducible refine g_catL ?_))
  | ((with_reducible show GoV _ (.BinOp (.BinOp (.List _ _) .Add _ _) .Add _ _) _ _); (with_reducible refine v_e ?_); (with_reducible refine g_catL ?_))
  | with_reducible refine g_catT (b := .Tuple _ _ _) ?_
  | with_reducible refine g_add ?_
  | with_reducible refine g_mul ?_
  | with_reducible refine g_sub ?_
  | with_reducible refine g_tup ?_
  | ((with_reducible refine' g_lenSet (by assumption) (by assumption) (by assumption) ?_ ?h1); (case h1 => rfl))
  | ((with_reducible refine' g_lenO (by assumption) (by assumption) ?ho ?_ ?h1 ?h2 ?h3); (case ho => with_unfolding_all rfl); (case h1 => rfl); (case h2 => rfl); (case h3 => rfl))
  | ((with_reducible refine' g_len (by assumption) ?_ ?h1 ?h2); (case h1 => rfl); (case h2 => rfl))
  | with_reducible refine g_str ?_
  | with_reducible refine g_bl ?_
  | with_reducible refine g_non ?_
  | with_reducible refine g_glob (by assumption) ?_
  | with_reducible refine g_bltn (by assumption) ?_
  | with_reducible refine g_mod ?_
  | ((with_reducible refine' g_append (by assumption) ?ho ?_ ?h1 ?h2 ?h3); (case ho => with_unfolding_all rfl); (case h1 => exact ⟨rfl, rfl, rfl⟩); (case h2 => rfl); (case h3 => rfl))
  | ((with_reducible refine' g_popAt (by assumption) ?ho ?_ ?h1 ?h2 ?h3); (case ho => with_unfolding_all rfl); (case h1 => exact ⟨rfl, rfl, rfl⟩); (case h2 => rfl); (case h3 => rfl))
  | with_reducible refine g_fdiv ?_
  | with_reducible refine g_pow ?_
  | with_reducible refine g_neg ?_
  | ((with_reducible refine' g_abs (by assumption) ?_ ?h1 ?h2); (case h1 => rfl); (case h2 => rfl))
  | ((with_reducible refine' g_all ?hc (by assumption) ?_ ?h1 ?h2); (case hc => exact Ct.calm (by assumption)); (case h1 => rfl); (case h2 => rfl))
  | ((with_reducible refine' g_chain2 ?_ ?hm); (case hm => with_unfolding_all rfl))
  | ((with_reducible refine' g_get2 (by assumption) ?_ ?hm); (case hm => exact ⟨rfl, rfl, rfl, rfl⟩))
  | ((with_reducible refine' g_slT ?_))
  | with_reducible refine g_eqX (by assumption) ?_
  | with_reducible refine g_neX (by assumption) ?_
  | with_reducible refine g_isN ?_
  | ((with_reducible refine' g_isi (T := "") (C := "") (by assumption) ?_ ?h1 ?h2 ?h3); (case h1 => rfl); (case h2 => rfl); (case h3 => rfl))
  | with_reducible refine g_ifx ?_
  | with_reducible refine g_lt ?_
  | with_reducible refine g_le ?_
  | with_reducible refine g_gt ?_
  | with_reducible refine g_and ?_
  | with_reducible refine g_or ?_
  | with_reducible refine g_one ?_
  | with_reducible refine g_not ?_)
local macro_rules | `(tactic| walk_at "fwE") => `(tactic| first
  | ((with_reducible refine' g_call (by assumption) ?_ ?h1 ?h2); (case h1 => rfl); (case h2 => rfl))
  | ((with_reducible show GoE _ (.BinOp (.List _ _) .Add _ _) _ _); (with_reducible refine g_catL ?_))
  | ((with_reducible show GoE _ (.BinOp (.BinOp (.List _ _) .Add _ _) .Add _ _) _ _); (with_reducible refine g_catL ?_))
  | with_reducible refine g_lst ?_
  | with_reducible refine g_dnew ?_
  | ((with_reducible refine' g_sorted (by assumption) (by assumption) ?_ ?h1 ?h2); (case h1 => rfl); (case h2 => rfl))
  | ((with_reducible refine' g_dict (by assumption) (by assumption) ?_ ?h1 ?h2); (case h1 => rfl); (case h2 => rfl)))
local macro_rules | `(tactic| walk_at "fwT") => `(tactic| first
  | with_reducible refine t_lt ?_
  | with_reducible refine t_le ?_
  | with_reducible refine t_gt ?_
  | with_reducible refine t_ge ?_
  | with_reducible refine t_notN ?_
  | with_reducible refine t_isN ?_
  | ((with_reducible refine' t_nin ?_ ?hm); (case hm => rfl))
  | ((with_reducible refine' t_in ?_ ?hm); (case hm => rfl))
  | ((with_reducible refine' t_chain2 ?_ ?hm); (case hm => with_unfolding_all rfl))
  | with_reducible refine t_isnB ?_
  | with_reducible refine t_neX (by assumption) ?_
  | with_reducible refine t_eqX (by assumption) ?_
  | with_reducible refine t_not ?_
  | with_reducible refine t_and ?_
  | with_reducible refine t_or ?_
  | with_reducible refine w_and ?_
  | with_reducible refine w_and1 ?_
  | with_reducible refine w_or ?_
  | with_reducible refine w_or1 ?_
  | ((with_reducible refine' t_val ?_ ?h); (case h => intro _; rfl)))
local macro_rules | `(tactic| walk_at "fwA") => `(tactic| first
  | ((with_reducible refine' a_cons ?_ ?hs); (case hs => rfl))
  | with_reducible refine a_nil ?_
  | ((with_reducible refine' l_own (by assumption) ?ho ?_ ?hs); (case ho => exact ⟨_, _, rfl⟩); (case hs => rfl))
  | ((with_reducible refine' l_cons ?_ ?hs); (case hs => rfl))
  | with_reducible refine l_nil ?_)
local macro_rules | `(tactic| walk_at "fwX") => `(tactic| first
  | ((with_reducible refine' exIx ?h1 ?h2 ?h3 ?_); (case h1 => rfl); (case h2 => rfl); (case h3 => rfl))
  | ((with_reducible refine' exLen (n := 2) ?h1 ?_); (case h1 => rfl))
  | ((with_reducible refine' exLen (n := 6) ?h1 ?_); (case h1 => rfl))
  | ((with_reducible refine' exLen ?h1 ?_); (case h1 => rfl))
  | ((with_reducible refine' exIsi ?h1 ?h2 ?h3 ?_); (case h1 => rfl); (case h2 => rfl); (case h3 => rfl))
  | ((with_reducible refine' exIn ?h1 ?h2 ?h3 ?_); (case h1 => rfl); (case h2 => rfl); (case h3 => rfl))
  | ((with_reducible refine' bT ?h1 ?_); (case h1 => decide))
  | ((with_reducible refine' bF ?h1 ?_); (case h1 => decide))
  | ((with_reducible refine' exIxO ?h1 ?h2 ?h3 ?_); (case h1 => rfl); (case h2 => rfl); (case h3 => rfl))
  | ((with_reducible refine' exSet ?h1 ?h2 ?h3 ?_); (case h1 => rfl); (case h2 => rfl); (case h3 => rfl); (dsimp only [List.set_cons_zero, List.set_cons_succ]))
  | ((with_reducible refine' exOwn ?h1 ?_); (case h1 => exact ⟨_, _, rfl⟩))
  | with_reducible refine ⟨_, eqOk_int, ?_⟩
  | with_reducible refine ⟨_, eqOk_str, ?_⟩
  | with_reducible refine ⟨_, eqOk_fr, ?_⟩
  | with_reducible refine ⟨_, eqOk_bl, ?_⟩
  | ((with_reducible refine' leL ?h1 ?_); (case h1 => rfl))
  | ((with_reducible show npar _ _ = true ∧ _); (refine ⟨rfl, ?_⟩); (try dsimp only [List.set_cons_zero, List.set_cons_succ, A.loc]))
  | ((with_reducible show List.Nodup _ ∧ _); first | refine ⟨.nil, ?_⟩ | refine ⟨(by dsimp only [slots]; decide), ?_⟩)
  | with_reducible refine ⟨_, rfl, ?_⟩)
/-- behind a call: what was given back -/
local macro_rules | `(tactic| walk_at "fwD") => `(tactic| dsimp only [give, lend, lend1, slots, flag, A.frz, O.frz, A.loc, List.getElem?_cons_zero, List.getElem?_cons_succ, List.set_cons_zero, List.set_cons_succ])
local macro_rules | `(tactic| walk_at "fw") => `(tactic| first
  | ((with_reducible show GoV _ _ _ _); first
    | walk_at "fwV"
    | ((with_reducible refine v_e ?_); walk_at "fwE"))
  | ((with_reducible show GoE _ _ _ _); first
    | walk_at "fwE"
    | ((with_reducible refine e_v ?_); walk_at "fwV"))
  | ((with_reducible show WT _ _ _ _); walk_at "fwT")
  | ((with_reducible show WS _ _ _ _); walk_at "fwS")
  | walk_at "fwA"
  | walk_at "fwX")
local macro_rules | `(tactic| walk_at "fwV") => `(tactic| ((with_reducible show GoV _ (.Subscript (.Name "run" _) _ _) _ _); (refine g_dix (by assumption) ?_)))
local macro_rules | `(tactic| walk_at "fwV") => `(tactic| ((with_reducible show GoV _ (.Subscript (.Name "pull" _) _ _) _ _); (refine g_dix (by assumption) ?_)))
section
variable {P : Program} {w : World} {K : PySem.W.Frag} {mg : Str → Option Value} {base : Heap}
/-- the dicts hold speeds and holds as the hanging has them -/
def spAgrees (n : Nat) : FSp := fun as R _ => ∃ (h : Hg) (ks ls : List Str) (xs ys : List D) (s : Rat), as = [.val h.d, .val (.dic ks xs), .val (.dic ls ys)] ∧ h.Ok ∧ h.nw ≤ n ∧ n ≤ 8 ∧
  (∀ x ∈ Hg.runsM k0 h s (h.F k0 * (1 - s)), dG ks xs x.1 = some (fr x.2.1) ∧ dG ls ys x.1 = some (fr x.2.2) ∧ Sz 2001 x.2.1 ∧ Sz 2001 x.2.2) ∧ R as (.val (.bl true))
theorem g__law_agrees (T : Txt K mg) : ∀ n : Nat, GDef P w K mg base "_law_agrees" (n + 10) (spAgrees n)
  | 0 => gdef T.d__law_agrees fun f fd F => fok F sc__law_agrees (fun as R RX ⟨h, _, _, _, _, _, e, _, hn, _⟩ => (no_hg (n := 0) hn).elim) fun g as R RX hg ⟨h, _, _, _, _, _, e, _, hn, _⟩ => (no_hg (n := 0) hn).elim
  | n + 1 => gdef T.d__law_agrees fun f fd F => by
    refine fok F sc__law_agrees (fun as R RX ⟨h, _, _, _, _, _, e, _⟩ => by subst e; rfl) fun g as R RX hg ⟨h, ks, ls, xs, ys, s, e, ok, hn, hn8, rows, q⟩ => ?_
    subst e
    obtain ⟨v_hanging, v_run, v_pull, v_rest, v_one, v_other, v_both, v_due, w_hanging, w_run, w_pull, w_rest, w_one, w_other, w_both, w_due, l_hanging, l_run, l_pull, l_rest, l_one, l_other, l_both, l_due, b_len, ct⟩ := fx__law_agrees T hg
    have c1 := ca__law_agrees__law_agrees hg (g__law_agrees T n) (by omega)
    have c2 := ca__law_agrees__law_minus hg (g__law_minus T) (by omega)
    have c3 := ca__law_agrees__law_times hg (g__law_times T) (by omega)
    have c4 := ca__law_agrees__law_plus hg (g__law_plus T) (by omega)
    have one : Sz 1 (1 : Rat) := sz_int (n := 1) (by decide) (by decide)
    have two : Sz 2 (2 : Rat) := sz_int (n := 2) (by decide) (by decide)
    have ten : ∀ {v : Int}, 0 ≤ v → v ≤ 1000 → Sz 10 (v : Rat) := fun h0 h1 => sz_int (by
      have : (2 : Nat) ^ 10 = 1024 := by decide
      omega) (by decide)
    obtain ⟨t1, t2, t3, t4⟩ := rows _ (Hg.runs_top h s _)
    have sz1 := one.sub t3 (Nat.le_refl _)
    conv => arg 2; whnf
    show GoB g _ [some (.val h.d), some (.val (.dic ks xs)), some (.val (.dic ls ys)), none, none, none, none, none] _
    cases h with
    | wt nm hv =>
      obtain ⟨o1, o2, o3⟩ := ok
      change GoB g _ [some (.val (.tup [.str nm, .int hv])), some (.val (.dic ks xs)), some (.val (.dic ls ys)), none, none, none, none, none] _
      walk_at "fw"
      walk_at "fw"
      walk_at "fw"
      walk_at "fw"
      walk_at "fw"
      repeat walk_at "fw"
      refine ⟨_, _, _, _, rfl, rfl, t1, ?_⟩
      repeat walk_at "fw"
      refine ⟨1, s, rfl, one.mono (by omega), t3.mono (by omega), trivial, ?_⟩
      walk_at "fwD"
      repeat walk_at "fw"
      refine ⟨_, _, _, _, rfl, rfl, t2, ?_⟩
      repeat walk_at "fw"
      refine ⟨(hv : Rat), _, rfl, (ten (by omega) o3).mono (by omega), sz1.mono (by omega), trivial, ?_⟩
      walk_at "fwD"
      repeat walk_at "fw"
      rw [show ((Hg.wt nm hv).F k0) = (hv : Rat) from rfl, decide_eq_true rfl]
      exact q
    | pu nm own l a r b =>
      obtain ⟨o1, o2, o2', o3, o4, o4', o5, o6, o6'⟩ := ok
      have e : (Hg.pu nm own l a r b).nw = l.nw + r.nw := rfl
      have hl := l.nw_pos
      have hr := r.nw_pos
      have f1 := Hg.F_pos kd0.ok o3
      have f2 := Hg.F_pos kd0.ok o5
      obtain ⟨m1, m2, m3, m4⟩ := Hg.laws_pu (own := own) (s := s) f1 f2
      rw [Hg.runs_pu] at rows
      have rl := fun x hx => rows x (List.mem_cons_of_mem _ (List.mem_append.mpr (.inl hx)))
      have rr := fun x hx => rows x (List.mem_cons_of_mem _ (List.mem_append.mpr (.inr hx)))
      obtain ⟨a1, a2, a3, a4⟩ := rl _ (Hg.runs_top l _ _)
      obtain ⟨b1, b2, b3, b4⟩ := rr _ (Hg.runs_top r _ _)
      have pl : Hg.pB k0 l r s = l.F k0 * (1 - Hg.sL k0 l r s) := m2
      have pr : Hg.pB k0 l r s = r.F k0 * (1 - Hg.sR k0 l r s) := m3
      obtain ⟨dl, el1, el2⟩ := hg_at0 l
      obtain ⟨dr, er1, er2⟩ := hg_at0 r
      change GoB g _ [some (.val (.tup [.str nm, .int own, l.d, .int a, r.d, .int b])), some (.val (.dic ks xs)), some (.val (.dic ls ys)), none, none, none, none, none] _
      repeat walk_at "fw"
      refine ⟨_, _, _, _, rfl, rfl, t1, ?_⟩
      repeat walk_at "fw"
      refine ⟨1, s, rfl, one.mono (by omega), t3.mono (by omega), trivial, ?_⟩
      walk_at "fwD"
      repeat walk_at "fw"
      refine ⟨0, dl, _, rfl, el1, el2, ?_⟩
      repeat walk_at "fw"
      refine ⟨0, dr, _, rfl, er1, er2, ?_⟩
      refine a_nil ⟨_, _, rfl, rfl, rfl, ?_⟩
      try dsimp only [List.set_cons_zero, List.set_cons_succ]
      repeat walk_at "fw"
      refine ⟨_, _, _, _, rfl, rfl, a1, ?_⟩
      repeat walk_at "fw"
      refine ⟨_, _, _, _, rfl, rfl, b1, ?_⟩
      repeat walk_at "fw"
      refine ⟨_, _, rfl, a3.mono (by omega), b3.mono (by omega), trivial, ?_⟩
      walk_at "fwD"
      repeat walk_at "fw"
      refine ⟨_, _, _, _, rfl, rfl, a2, ?_⟩
      repeat walk_at "fw"
      refine ⟨_, _, _, _, rfl, rfl, b2, ?_⟩
      repeat walk_at "fw"
      rw [decide_eq_true rfl]
      repeat walk_at "fw"
      refine ⟨_, _, _, _, rfl, rfl, t1, ?_⟩
      repeat walk_at "fw"
      refine ⟨2, s, rfl, two.mono (by omega), t3.mono (by omega), trivial, ?_⟩
      walk_at "fwD"
      repeat walk_at "fw"
      rw [decide_eq_true (show Hg.sL k0 l r s + Hg.sR k0 l r s = 2 * s from m1)]
      repeat walk_at "fw"
      refine ⟨(own : Rat), _, rfl, (ten o2 o2').mono (by omega), sz1.mono (by omega), trivial, ?_⟩
      walk_at "fwD"
      repeat walk_at "fw"
      refine ⟨_, _, _, _, rfl, rfl, t2, ?_⟩
      repeat walk_at "fw"
      refine ⟨_, _, _, _, rfl, rfl, a2, ?_⟩
      repeat walk_at "fw"
      refine ⟨2, _, rfl, two.mono (by omega), a4.mono (by omega), trivial, ?_⟩
      walk_at "fwD"
      repeat walk_at "fw"
      refine ⟨_, _, rfl, ((ten o2 o2').mul sz1 (Nat.le_refl _)).mono (by omega), (two.mul a4 (Nat.le_refl _)).mono (by omega), trivial, ?_⟩
      walk_at "fwD"
      repeat walk_at "fw"
      rw [decide_eq_true (show ((Hg.pu nm own l a r b).F k0) * (1 - s) = own * (1 - s) + 2 * Hg.pB k0 l r s from m4)]
      repeat walk_at "fw"
      refine ⟨l, _, _, _, _, _, rfl, o3, by omega, by omega, by rw [← pl]; exact rl, ?_⟩
      walk_at "fwD"
      repeat walk_at "fw"
      refine ⟨r, _, _, _, _, _, rfl, o5, by omega, by omega, by rw [← pr]; exact rr, ?_⟩
      walk_at "fwD"
      repeat walk_at "fw"
      exact q
end
end KW

set_option Elab.async false
set_option linter.all false
set_option maxRecDepth 100000
set_option maxHeartbeats 4000000
namespace KW
open PySem PySem.Spec L2 FW
/-- the walk over data, a rule a step -/
local macro_rules | `(tactic| walk_at "fwS") => `(tactic| first
  | ((with_reducible refine b_cut ?_); intro _ _)
  | with_reducible refine b_sub (by assumption) ?_
  | with_reducible refine b_cons ?_
  | with_reducible refine b_nil ?_
  | with_reducible refine s_if ?_
  | ((with_reducible refine' s_retO (by assumption) ?hr ?_); (case hr => with_unfolding_all rfl))
  | with_reducible refine s_ret ?_
  | ((with_reducible refine' s_par (by assumption) (by assumption) (by assumption) (by assumption) (by assumption) ?_ ?h1 ?h2 ?h3 ?h4 ?h5 ?h6 ?h7 ?h8); (case h1 => decide); (case h2 => rfl); (case h3 => decide); (case h4 => rfl); (case h5 => rfl); (case h6 => decide); (case h7 => decide); (case h8 => rfl))
  | ((with_reducible refine' s_expr ?_ ?hs); (case hs => rfl))
  | ((with_reducible show GoS _ (.Assign _ (.List _ _) _) _ _); (with_reducible refine' s_setO (by assumption) ?_ ?hs); (case hs => rfl))
  | ((with_reducible show GoS _ (.Assign [.Subscript _ _ _] _ _) _ _); (refine s_setIx (by assumption) (by with_unfolding_all rfl) ?_))
  | ((with_reducible refine' s_set (by assumption) ?_ ?hs); (case hs => with_unfolding_all rfl)))
local macro_rules | `(tactic| walk_at "fwV") => `(tactic| first
  | ((with_reducible refine' g_var (by assumption) ?hr ?_); (case hr => with_unfolding_all rfl))
  | with_reducible refine g_int ?_
  | ((with_reducible show GoV _ (.Subscript (.Name "table" _) _ _) _ _); (refine g_dix (by assumption) ?_))
  | ((with_reducible show GoV _ (.Subscript (.Call (.Name "dict" _) _ _ _) _ _) _ _); (refine g_dix (by assumption) ?_))
  | ((with_reducible refine' g_ixO (by assumption) ?ho ?_ ?hs); (case ho => with_unfolding_all rfl); (case hs => exact fun _ _ => rfl))
  | ((with_reducible refine' g_ix ?_ ?hs); (case hs => exact fun _ _ => rfl))
  | ((with_reducible show GoV _ (.BinOp (.List _ _) .Add _ _) _ _); (with_reducible refine v_e ?_); (with_reducible refine g_catL ?_))
  | ((with_reducible show GoV _ (.BinOp (.BinOp (.List _ _) .Add _ _) .Add _ _) _ _); (with_reducible refine v_e ?_); (with_reducible refine g_catL ?_))
  | with_reducible refine g_catT (b := .Tuple _ _ _) ?_
  | with_reducible refine g_add ?_
  | with_reducible refine g_mul ?_
  | with_reducible refine g_sub ?_
  | with_reducible refine g_tup ?_
  | ((with_reducible refine' g_lenSet (by assumption) (by assumption) (by assumption) ?_ ?h1); (case h1 => rfl))
  | ((with_reducible refine' g_lenO (by assumption) (by assumption) ?ho ?_ ?h1 ?h2 ?h3); (case ho => with_unfolding_all rfl); (case h1 => rfl); (case h2 => rfl); (case h3 => rfl))
  | ((with_reducible refine' g_len (by assumption) ?_ ?h1 ?h2); (case h1 => rfl); (case h2 => rfl))
  | with_reducible refine g_str ?_
  | with_reducible refine g_bl ?_
  | with_reducible refine g_non ?_
  | with_reducible refine g_glob (by assumption) ?_
  | with_reducible refine g_bltn (by assumption) ?_
  | with_reducible refine g_mod ?_
  | ((with_reducible refine' g_append (by assumption) ?ho ?_ ?h1 ?h2 ?h3); (case ho => with_unfolding_all rfl); (case h1 => exact ⟨rfl, rfl, rfl⟩); (case h2 => rfl); (case h3 => rfl))
  | ((with_reducible refine' g_popAt (by assumption) ?ho ?_ ?h1 ?h2 ?h3); (case ho => with_unfolding_all rfl); (case h1 => exact ⟨rfl, rfl, rfl⟩); (case h2 => rfl); (case h3 => rfl))
  | with_reducible refine g_fdiv ?_
  | with_reducible refine g_pow ?_
  | with_reducible refine g_neg ?_
  | ((with_reducible refine' g_abs (by assumption) ?_ ?h1 ?h2); (case h1 => rfl); (case h2 => rfl))
  | ((with_reducible refine' g_all ?hc (by assumption) ?_ ?h1 ?h2); (case hc => exact Ct.calm (by assumption)); (case h1 => rfl); (case h2 => rfl))
  | ((with_reducible refine' g_chain2 ?_ ?hm); (case hm => with_unfolding_all rfl))
  | ((with_reducible refine' g_get2 (by assumption) ?_ ?hm); (case hm => exact ⟨rfl, rfl, rfl, rfl⟩))
  | ((with_reducible refine' g_slT ?_))
  | with_reducible refine g_eqX (by assumption) ?_
  | with_reducible refine g_neX (by assumption) ?_
  | with_reducible refine g_isN ?_
  | ((with_reducible refine' g_isi (T := "") (C := "") (by assumption) ?_ ?h1 ?h2 ?h3); (case h1 => rfl); (case h2 => rfl); (case h3 => rfl))
  | with_reducible refine g_ifx ?_
  | with_reducible refine g_lt ?_
  | with_reducible refine g_le ?_
  | with_reducible refine g_gt ?_
  | with_reducible refine g_and ?_
  | with_reducible refine g_or ?_
  | with_reducible refine g_one ?_
  | with_reducible refine g_not ?_)
local macro_rules | `(tactic| walk_at "fwE") => `(tactic| first
  | ((with_reducible refine' g_call (by assumption) ?_ ?h1 ?h2); (case h1 => rfl); (case h2 => rfl))
  | ((with_reducible show GoE _ (.BinOp (.List _ _) .Add _ _) _ _); (with_reducible refine g_catL ?_))
  | ((with_reducible show GoE _ (.BinOp (.BinOp (.List _ _) .Add _ _) .Add _ _) _ _); (with_reducible refine g_catL ?_))
  | with_reducible refine g_lst ?_
  | with_reducible refine g_dnew ?_
  | ((with_reducible refine' g_sorted (by assumption) (by assumption) ?_ ?h1 ?h2); (case h1 => rfl); (case h2 => rfl))
  | ((with_reducible refine' g_dict (by assumption) (by assumption) ?_ ?h1 ?h2); (case h1 => rfl); (case h2 => rfl)))
local macro_rules | `(tactic| walk_at "fwT") => `(tactic| first
  | with_reducible refine t_lt ?_
  | with_reducible refine t_le ?_
  | with_reducible refine t_gt ?_
  | with_reducible refine t_ge ?_
  | with_reducible refine t_notN ?_
  | with_reducible refine t_isN ?_
  | ((with_reducible refine' t_nin ?_ ?hm); (case hm => rfl))
  | ((with_reducible refine' t_in ?_ ?hm); (case hm => rfl))
  | ((with_reducible refine' t_chain2 ?_ ?hm); (case hm => with_unfolding_all rfl))
  | with_reducible refine t_isnB ?_
  | with_reducible refine t_neX (by assumption) ?_
  | with_reducible refine t_eqX (by assumption) ?_
  | with_reducible refine t_not ?_
  | with_reducible refine t_and ?_
  | with_reducible refine t_or ?_
  | with_reducible refine w_and ?_
  | with_reducible refine w_and1 ?_
  | with_reducible refine w_or ?_
  | with_reducible refine w_or1 ?_
  | ((with_reducible refine' t_val ?_ ?h); (case h => intro _; rfl)))
local macro_rules | `(tactic| walk_at "fwA") => `(tactic| first
  | ((with_reducible refine' a_cons ?_ ?hs); (case hs => rfl))
  | with_reducible refine a_nil ?_
  | ((with_reducible refine' l_own (by assumption) ?ho ?_ ?hs); (case ho => exact ⟨_, _, rfl⟩); (case hs => rfl))
  | ((with_reducible refine' l_cons ?_ ?hs); (case hs => rfl))
  | with_reducible refine l_nil ?_)
local macro_rules | `(tactic| walk_at "fwX") => `(tactic| first
  | ((with_reducible refine' exIx ?h1 ?h2 ?h3 ?_); (case h1 => rfl); (case h2 => rfl); (case h3 => rfl))
  | ((with_reducible refine' exLen (n := 2) ?h1 ?_); (case h1 => rfl))
  | ((with_reducible refine' exLen (n := 6) ?h1 ?_); (case h1 => rfl))
  | ((with_reducible refine' exLen ?h1 ?_); (case h1 => rfl))
  | ((with_reducible refine' exIsi ?h1 ?h2 ?h3 ?_); (case h1 => rfl); (case h2 => rfl); (case h3 => rfl))
  | ((with_reducible refine' exIn ?h1 ?h2 ?h3 ?_); (case h1 => rfl); (case h2 => rfl); (case h3 => rfl))
  | ((with_reducible refine' bT ?h1 ?_); (case h1 => decide))
  | ((with_reducible refine' bF ?h1 ?_); (case h1 => decide))
  | ((with_reducible refine' exIxO ?h1 ?h2 ?h3 ?_); (case h1 => rfl); (case h2 => rfl); (case h3 => rfl))
  | ((with_reducible refine' exSet ?h1 ?h2 ?h3 ?_); (case h1 => rfl); (case h2 => rfl); (case h3 => rfl); (dsimp only [List.set_cons_zero, List.set_cons_succ]))
  | ((with_reducible refine' exOwn ?h1 ?_); (case h1 => exact ⟨_, _, rfl⟩))
  | with_reducible refine ⟨_, eqOk_int, ?_⟩
  | with_reducible refine ⟨_, eqOk_str, ?_⟩
  | with_reducible refine ⟨_, eqOk_fr, ?_⟩
  | with_reducible refine ⟨_, eqOk_bl, ?_⟩
  | ((with_reducible refine' leL ?h1 ?_); (case h1 => rfl))
  | ((with_reducible show npar _ _ = true ∧ _); (refine ⟨rfl, ?_⟩); (try dsimp only [List.set_cons_zero, List.set_cons_succ, A.loc]))
  | ((with_reducible show List.Nodup _ ∧ _); first | refine ⟨.nil, ?_⟩ | refine ⟨(by dsimp only [slots]; decide), ?_⟩)
  | with_reducible refine ⟨_, rfl, ?_⟩)
/-- behind a call: what was given back -/
local macro_rules | `(tactic| walk_at "fwD") => `(tactic| dsimp only [give, lend, lend1, slots, flag, A.frz, O.frz, A.loc, List.getElem?_cons_zero, List.getElem?_cons_succ, List.set_cons_zero, List.set_cons_succ])
local macro_rules | `(tactic| walk_at "fw") => `(tactic| first
  | ((with_reducible show GoV _ _ _ _); first
    | walk_at "fwV"
    | ((with_reducible refine v_e ?_); walk_at "fwE"))
  | ((with_reducible show GoE _ _ _ _); first
    | walk_at "fwE"
    | ((with_reducible refine e_v ?_); walk_at "fwV"))
  | ((with_reducible show WT _ _ _ _); walk_at "fwT")
  | ((with_reducible show WS _ _ _ _); walk_at "fwS")
  | walk_at "fwA"
  | walk_at "fwX")
section
variable {P : Program} {w : World} {K : PySem.W.Frag} {mg : Str → Option Value} {base : Heap}
theorem things_ok : ∀ {h : Hg}, h.Ok → ∀ t ∈ h.things, t.Ok ∧ t.nw ≤ h.nw
  | .wt n v, ok, t, ht => by
    rw [show t = .wt n v from List.mem_singleton.mp ht]
    exact ⟨ok, Nat.le_refl _⟩
  | .pu n own l a r b, ok, t, ht => by
    have e : (Hg.pu n own l a r b).nw = l.nw + r.nw := rfl
    rcases List.mem_cons.mp ht with z | ht
    · rw [z]; exact ⟨ok, Nat.le_refl _⟩
    · obtain ⟨_, _, _, o3, _, _, o5, _⟩ := ok
      rcases List.mem_append.mp ht with z | z
      · obtain ⟨q1, q2⟩ := things_ok o3 t z
        exact ⟨q1, by omega⟩
      · obtain ⟨q1, q2⟩ := things_ok o5 t z
        exact ⟨q1, by omega⟩
def spEven : FSp := fun as R _ => ∃ h : Hg, as = [.val h.d] ∧ h.Ok ∧ h.nw ≤ 8 ∧ R as (.val (.bl (h.things.all (Hg.evenT k0))))
theorem g__law_even (T : Txt K mg) : GDef P w K mg base "_law_even" 20 spEven := gdef T.d__law_even fun f fd F => by
  refine fok F sc__law_even (fun as R RX ⟨_, e, _⟩ => by subst e; rfl) fun g as R RX hg ⟨h, e, ok, h8, q⟩ => ?_
  subst e
  obtain ⟨v_hanging, v_thing, w_hanging, w_thing, l_hanging, l_thing, b_len, ct⟩ := fx__law_even T hg
  have c1 := ca__law_even__law_things hg (g__law_things T 8) (by omega)
  have c2 := ca__law_even__law_felt hg (g__law_felt T 8) (by omega)
  have tok := things_ok ok
  conv => arg 2; whnf
  show GoB g _ [some (.val h.d), none] _
  refine b_cons (s_for ct (pg_name w_thing.nd w_thing.hN w_thing.hl w_thing.hf) (i_list ?_))
  repeat walk_at "fw"
  refine ⟨h, rfl, h8, by omega, ?_⟩
  walk_at "fwD"
  refine ⟨_, rfl, ?_⟩
  refine loop_each Hg.d (fun ts ρ => (∀ t ∈ ts, t.Ok ∧ t.nw ≤ h.nw) ∧ (∃ y, ρ = [some (.val h.d), y] ∧ npB y = true) ∧ R [.val h.d] (.val (.bl (ts.all (Hg.evenT k0))))) ?_ ?_ _ _ ⟨tok, ⟨none, rfl, rfl⟩, q⟩
  · rintro t ts _ ⟨tok, ⟨y, rfl, hy⟩, q⟩
    rw [List.all_cons] at q
    refine wg_name (npar_of fun z e => by cases e; exact hy) ?_
    obtain ⟨ok1, nw1⟩ := tok t (List.mem_cons_self ..)
    have tok' := fun t' ht => tok t' (List.mem_cons_of_mem _ ht)
    cases t with
    | wt nm hv =>
      show GoB g _ [some (.val h.d), some (.val (.tup [.str nm, .int hv]))] _
      repeat walk_at "fw"
      exact ⟨tok', ⟨_, rfl, rfl⟩, q⟩
    | pu nm own l a r b =>
      obtain ⟨_, _, _, o3, _, _, o5, _⟩ := ok1
      have e : (Hg.pu nm own l a r b).nw = l.nw + r.nw := rfl
      show GoB g _ [some (.val h.d), some (.val (.tup [.str nm, .int own, l.d, .int a, r.d, .int b]))] _
      repeat walk_at "fw"
      refine ⟨l, k0, [], [], rfl, kd0, o3, by omega, by omega, ?_⟩
      walk_at "fwD"
      repeat walk_at "fw"
      refine ⟨r, k0, [], [], rfl, kd0, o5, by omega, by omega, ?_⟩
      walk_at "fwD"
      repeat walk_at "fw"
      refine ⟨fun z => ?_, fun z => ?_⟩
      · repeat walk_at "fw"
        have z' : Hg.evenT k0 (.pu nm own l a r b) = false := by simpa [Hg.evenT] using z
        rw [z', Bool.false_and] at q
        exact q
      · repeat walk_at "fw"
        have z' : Hg.evenT k0 (.pu nm own l a r b) = true := by simpa [Hg.evenT] using z
        rw [z', Bool.true_and] at q
        exact ⟨tok', ⟨_, rfl, rfl⟩, q⟩
  · rintro _ ⟨_, ⟨y, rfl, hy⟩, q⟩
    repeat walk_at "fw"
    exact q
/-- a hanging that rests, its names off the list's end -/
def spStillH (n : Nat) : FSp := fun as R _ => ∃ (ds : List D) (whole : Int) (deep : Nat) (ns : List Str), as = [.own true (.lst ds), .val (.int whole), .val (.int deep), .own true (.lst (ns.map .str))] ∧ WOk ds ∧ 1 ≤ whole ∧ whole ≤ 1000 ∧ deep ≤ n ∧ n ≤ 5 ∧ 2 ^ (deep + 1) ≤ ns.length + 1 ∧ ns.length ≤ 100 ∧ (∀ s ∈ ns, NmOk s) ∧
  ∀ (ds' : List D) (h : Hg) (rest used : List Str), WOk ds' → h.Ok → h.F k0 = whole → h.even k0 → ns = rest ++ used → used.length + 1 ≤ 2 ^ (deep + 1) → h.names.Perm used → R [.own true (.lst ds'), .val (.int whole), .val (.int deep), .own true (.lst (rest.map .str))] (.val h.d)
theorem still_F {whole half : Int} (h : 0 < half) : (((whole - 2 * half : Int) : Rat) + 4 * ((half : Rat) * half) / ((half : Rat) + half)) = whole := by
  have p : 0 < (half : Rat) := Rat.intCast_pos.mpr h
  have i : ((half : Rat) + half) * ((half : Rat) + half)⁻¹ = 1 := Rat.mul_inv_cancel _ (by grind)
  simp only [Rat.intCast_sub, Rat.intCast_mul, Rat.div_def]
  have two : ((2 : Int) : Rat) = 2 := rfl
  rw [two]
  grind
end
end KW

set_option Elab.async false
set_option linter.all false
set_option maxRecDepth 100000
set_option maxHeartbeats 4000000
namespace KW
open PySem PySem.Spec L2 FW
/-- the walk over data, a rule a step -/
local macro_rules | `(tactic| walk_at "fwS") => `(tactic| first
  | ((with_reducible refine b_cut ?_); intro _ _)
  | with_reducible refine b_sub (by assumption) ?_
  | with_reducible refine b_cons ?_
  | with_reducible refine b_nil ?_
  | with_reducible refine s_if ?_
  | ((with_reducible refine' s_retO (by assumption) ?hr ?_); (case hr => with_unfolding_all rfl))
  | with_reducible refine s_ret ?_
  | ((with_reducible refine' s_par (by assumption) (by assumption) (by assumption) (by assumption) (by assumption) ?_ ?h1 ?h2 ?h3 ?h4 ?h5 ?h6 ?h7 ?h8); (case h1 => decide); (case h2 => rfl); (case h3 => decide); (case h4 => rfl); (case h5 => rfl); (case h6 => decide); (case h7 => decide); (case h8 => rfl))
  | ((with_reducible refine' s_expr ?_ ?hs); (case hs => rfl))
  | ((with_reducible show GoS _ (.Assign _ (.List _ _) _) _ _); (with_reducible refine' s_setO (by assumption) ?_ ?hs); (case hs => rfl))
  | ((with_reducible show GoS _ (.Assign [.Subscript _ _ _] _ _) _ _); (refine s_setIx (by assumption) (by with_unfolding_all rfl) ?_))
  | ((with_reducible refine' s_set (by assumption) ?_ ?hs); (case hs => with_unfolding_all rfl)))
local macro_rules | `(tactic| walk_at "fwV") => `(tactic| first
  | ((with_reducible refine' g_var (by assumption) ?hr ?_); (case hr => with_unfolding_all rfl))
  | with_reducible refine g_int ?_
  | ((with_reducible show GoV _ (.Subscript (.Name "table" _) _ _) _ _); (refine g_dix (by assumption) ?_))
  | ((with_reducible show GoV _ (.Subscript (.Call (.Name "dict" _) _ _ _) _ _) _ _); (refine g_dix (by assumption) ?_))
  | ((with_reducible refine' g_ixO (by assumption) ?ho ?_ ?hs); (case ho => with_unfolding_all rfl); (case hs => exact fun _ _ => rfl))
  | ((with_reducible refine' g_ix ?_ ?hs); (case hs => exact fun _ _ => rfl))
  | ((with_reducible show GoV _ (.BinOp (.List _ _) .Add _ _) _ _); (with_reducible refine v_e ?_); (with_reducible refine g_catL ?_))
  | ((with_reducible show GoV _ (.BinOp (.BinOp (.List _ _) .Add _ _) .Add _ _) _ _); (with_reducible refine v_e ?_); (with_reducible refine g_catL ?_))
  | with_reducible refine g_catT (b := .Tuple _ _ _) ?_
  | with_reducible refine g_add ?_
  | with_reducible refine g_mul ?_
  | with_reducible refine g_sub ?_
  | with_reducible refine g_tup ?_
  | ((with_reducible refine' g_lenSet (by assumption) (by assumption) (by assumption) ?_ ?h1); (case h1 => rfl))
  | ((with_reducible refine' g_lenO (by assumption) (by assumption) ?ho ?_ ?h1 ?h2 ?h3); (case ho => with_unfolding_all rfl); (case h1 => rfl); (case h2 => rfl); (case h3 => rfl))
  | ((with_reducible refine' g_len (by assumption) ?_ ?h1 ?h2); (case h1 => rfl); (case h2 => rfl))
  | with_reducible refine g_str ?_
  | with_reducible refine g_bl ?_
  | with_reducible refine g_non ?_
  | with_reducible refine g_glob (by assumption) ?_
  | with_reducible refine g_bltn (by assumption) ?_
  | with_reducible refine g_mod ?_
  | ((with_reducible refine' g_append (by assumption) ?ho ?_ ?h1 ?h2 ?h3); (case ho => with_unfolding_all rfl); (case h1 => exact ⟨rfl, rfl, rfl⟩); (case h2 => rfl); (case h3 => rfl))
  | ((with_reducible refine' g_popAt (by assumption) ?ho ?_ ?h1 ?h2 ?h3); (case ho => with_unfolding_all rfl); (case h1 => exact ⟨rfl, rfl, rfl⟩); (case h2 => rfl); (case h3 => rfl))
  | with_reducible refine g_fdiv ?_
  | with_reducible refine g_pow ?_
  | with_reducible refine g_neg ?_
  | ((with_reducible refine' g_abs (by assumption) ?_ ?h1 ?h2); (case h1 => rfl); (case h2 => rfl))
  | ((with_reducible refine' g_all ?hc (by assumption) ?_ ?h1 ?h2); (case hc => exact Ct.calm (by assumption)); (case h1 => rfl); (case h2 => rfl))
  | ((with_reducible refine' g_chain2 ?_ ?hm); (case hm => with_unfolding_all rfl))
  | ((with_reducible refine' g_get2 (by assumption) ?_ ?hm); (case hm => exact ⟨rfl, rfl, rfl, rfl⟩))
  | ((with_reducible refine' g_slT ?_))
  | with_reducible refine g_eqX (by assumption) ?_
  | with_reducible refine g_neX (by assumption) ?_
  | with_reducible refine g_isN ?_
  | ((with_reducible refine' g_isi (T := "") (C := "") (by assumption) ?_ ?h1 ?h2 ?h3); (case h1 => rfl); (case h2 => rfl); (case h3 => rfl))
  | with_reducible refine g_ifx ?_
  | with_reducible refine g_lt ?_
  | with_reducible refine g_le ?_
  | with_reducible refine g_gt ?_
  | with_reducible refine g_and ?_
  | with_reducible refine g_or ?_
  | with_reducible refine g_one ?_
  | with_reducible refine g_not ?_)
local macro_rules | `(tactic| walk_at "fwE") => `(tactic| first
  | ((with_reducible refine' g_call (by assumption) ?_ ?h1 ?h2); (case h1 => rfl); (case h2 => rfl))
  | ((with_reducible show GoE _ (.BinOp (.List _ _) .Add _ _) _ _); (with_reducible refine g_catL ?_))
  | ((with_reducible show GoE _ (.BinOp (.BinOp (.List _ _) .Add _ _) .Add _ _) _ _); (with_reducible refine g_catL ?_))
  | with_reducible refine g_lst ?_
  | with_reducible refine g_dnew ?_
  | ((with_reducible refine' g_sorted (by assumption) (by assumption) ?_ ?h1 ?h2); (case h1 => rfl); (case h2 => rfl))
  | ((with_reducible refine' g_dict (by assumption) (by assumption) ?_ ?h1 ?h2); (case h1 => rfl); (case h2 => rfl)))
local macro_rules | `(tactic| walk_at "fwT") => `(tactic| first
  | with_reducible refine t_lt ?_
  | with_reducible refine t_le ?_
  | with_reducible refine t_gt ?_
  | with_reducible refine t_ge ?_
  | with_reducible refine t_notN ?_
  | with_reducible refine t_isN ?_
  | ((with_reducible refine' t_nin ?_ ?hm); (case hm => rfl))
  | ((with_reducible refine' t_in ?_ ?hm); (case hm => rfl))
  | ((with_reducible refine' t_chain2 ?_ ?hm); (case hm => with_unfolding_all rfl))
  | with_reducible refine t_isnB ?_
  | with_reducible refine t_neX (by assumption) ?_
  | with_reducible refine t_eqX (by assumption) ?_
  | with_reducible refine t_not ?_
  | with_reducible refine t_and ?_
  | with_reducible refine t_or ?_
  | with_reducible refine w_and ?_
  | with_reducible refine w_and1 ?_
  | with_reducible refine w_or ?_
  | with_reducible refine w_or1 ?_
  | ((with_reducible refine' t_val ?_ ?h); (case h => intro _; rfl)))
local macro_rules | `(tactic| walk_at "fwA") => `(tactic| first
  | ((with_reducible refine' a_cons ?_ ?hs); (case hs => rfl))
  | with_reducible refine a_nil ?_
  | ((with_reducible refine' l_own (by assumption) ?ho ?_ ?hs); (case ho => exact ⟨_, _, rfl⟩); (case hs => rfl))
  | ((with_reducible refine' l_cons ?_ ?hs); (case hs => rfl))
  | with_reducible refine l_nil ?_)
local macro_rules | `(tactic| walk_at "fwX") => `(tactic| first
  | ((with_reducible refine' exIx ?h1 ?h2 ?h3 ?_); (case h1 => rfl); (case h2 => rfl); (case h3 => rfl))
  | ((with_reducible refine' exLen (n := 2) ?h1 ?_); (case h1 => rfl))
  | ((with_reducible refine' exLen (n := 6) ?h1 ?_); (case h1 => rfl))
  | ((with_reducible refine' exLen ?h1 ?_); (case h1 => rfl))
  | ((with_reducible refine' exIsi ?h1 ?h2 ?h3 ?_); (case h1 => rfl); (case h2 => rfl); (case h3 => rfl))
  | ((with_reducible refine' exIn ?h1 ?h2 ?h3 ?_); (case h1 => rfl); (case h2 => rfl); (case h3 => rfl))
  | ((with_reducible refine' bT ?h1 ?_); (case h1 => decide))
  | ((with_reducible refine' bF ?h1 ?_); (case h1 => decide))
  | ((with_reducible refine' exIxO ?h1 ?h2 ?h3 ?_); (case h1 => rfl); (case h2 => rfl); (case h3 => rfl))
  | ((with_reducible refine' exSet ?h1 ?h2 ?h3 ?_); (case h1 => rfl); (case h2 => rfl); (case h3 => rfl); (dsimp only [List.set_cons_zero, List.set_cons_succ]))
  | ((with_reducible refine' exOwn ?h1 ?_); (case h1 => exact ⟨_, _, rfl⟩))
  | with_reducible refine ⟨_, eqOk_int, ?_⟩
  | with_reducible refine ⟨_, eqOk_str, ?_⟩
  | with_reducible refine ⟨_, eqOk_fr, ?_⟩
  | with_reducible refine ⟨_, eqOk_bl, ?_⟩
  | ((with_reducible refine' leL ?h1 ?_); (case h1 => rfl))
  | ((with_reducible show npar _ _ = true ∧ _); (refine ⟨rfl, ?_⟩); (try dsimp only [List.set_cons_zero, List.set_cons_succ, A.loc]))
  | ((with_reducible show List.Nodup _ ∧ _); first | refine ⟨.nil, ?_⟩ | refine ⟨(by dsimp only [slots]; decide), ?_⟩)
  | with_reducible refine ⟨_, rfl, ?_⟩)
/-- behind a call: what was given back -/
local macro_rules | `(tactic| walk_at "fwD") => `(tactic| dsimp only [give, lend, lend1, slots, flag, A.frz, O.frz, A.loc, List.getElem?_cons_zero, List.getElem?_cons_succ, List.set_cons_zero, List.set_cons_succ])
local macro_rules | `(tactic| walk_at "fw") => `(tactic| first
  | ((with_reducible show GoV _ _ _ _); first
    | walk_at "fwV"
    | ((with_reducible refine v_e ?_); walk_at "fwE"))
  | ((with_reducible show GoE _ _ _ _); first
    | walk_at "fwE"
    | ((with_reducible refine e_v ?_); walk_at "fwV"))
  | ((with_reducible show WT _ _ _ _); walk_at "fwT")
  | ((with_reducible show WS _ _ _ _); walk_at "fwS")
  | walk_at "fwA"
  | walk_at "fwX")
section
variable {P : Program} {w : World} {K : PySem.W.Frag} {mg : Str → Option Value} {base : Heap}
theorem g_still_one (T : Txt K mg) (n : Nat) (rec : n = 0 ∨ ∃ m, n = m + 1 ∧ GDef P w K mg base "_law_still" (m + 2) (spStillH m)) : GDef P w K mg base "_law_still" (n + 2) (spStillH n) := gdef T.d__law_still fun f fd F => by
    refine fok F sc__law_still (fun as R RX ⟨_, _, _, _, e, _⟩ => by subst e; rfl) fun g as R RX hg ⟨ds, whole, deep, ns, e, wo, h1, h2, hd, hn5, hl, hl2, hok, q⟩ => ?_
    subst e
    obtain ⟨v_well, v_whole, v_deep, v_names, v_half, v_name, v_one, w_well, w_whole, w_deep, w_names, w_half, w_name, w_one, l_well, l_whole, l_deep, l_names, l_half, l_name, l_one, ct⟩ := fx__law_still T hg
    have c1 := ca__law_still__law_take hg (g__law_take T) (by omega)
    have e33 : (2 : Int) ^ 33 = 8589934592 := by decide
    have md : (whole - 1).fdiv 2 = (whole - 1) / 2 := Int.fdiv_eq_ediv_of_nonneg _ (by decide)
    conv => arg 2; whnf
    show GoB g _ [some (.own true (.lst ds)), some (.val (.int whole)), some (.val (.int deep)), some (.own true (.lst (ns.map .str))), none, none, none] _
    have h2d : 1 ≤ 2 ^ deep := Nat.one_le_two_pow
    have e2 : 2 ^ (deep + 1) = 2 * 2 ^ deep := by rw [Nat.pow_succ]; omega
    obtain ⟨nr, nm, en, hnr⟩ := split_last ns (ns.length - 1) (by omega)
    subst en
    have lastAt : (List.map D.str (nr ++ [nm]))[(List.map D.str (nr ++ [nm])).length - 1]? = some (.str nm) := by
      rw [List.map_append, List.length_append]
      simp
    have dl : (List.map D.str (nr ++ [nm])).dropLast = nr.map D.str := by rw [List.map_append, List.map_singleton, List.dropLast_concat]
    have qleaf := q ds (.wt nm whole) nr [nm] wo ⟨hok nm (by simp), h1, h2⟩ rfl trivial rfl (by simp; omega) (List.Perm.refl _)
    repeat walk_at "fw"
    refine ⟨fun z => ?_, fun z => ?_⟩
    · repeat walk_at "fw"
      refine g_pop (i := 3) (d := .str nm) v_names rfl lastAt ?_
      rw [dl]
      repeat walk_at "fw"
      exact qleaf
    · repeat walk_at "fw"
      refine ⟨fun z2 => ?_, fun z2 => ?_⟩
      · repeat walk_at "fw"
        refine g_pop (i := 3) (d := .str nm) v_names rfl lastAt ?_
        rw [dl]
        repeat walk_at "fw"
        exact qleaf
      · have hw : 3 ≤ whole := by have := of_decide_eq_false z; omega
        have hd0 : deep ≠ 0 := fun e => by have := of_decide_eq_false z2; omega
        obtain ⟨dp, rfl⟩ : ∃ dp, deep = dp + 1 := ⟨deep - 1, by omega⟩
        obtain ⟨m, rfl, rec'⟩ : ∃ m, n = m + 1 ∧ GDef P w K mg base "_law_still" (m + 2) (spStillH m) := by
          rcases rec with z | z
          · omega
          · exact z
        have c3 := ca__law_still__law_still hg rec' (by omega)
        have p2 : 2 ^ (dp + 1) = 2 * 2 ^ dp := by rw [Nat.pow_succ]; omega
        have p1 : 1 ≤ 2 ^ dp := Nat.one_le_two_pow
        repeat walk_at "fw"
        refine ⟨cfd_small (by decide) (by decide), ?_⟩
        repeat walk_at "fw"
        refine ⟨ds, _, rfl, wo, by rw [md]; omega, by rw [md]; omega, fun ds1 r1 wo1 a1 b1 => ?_⟩
        rw [md] at b1
        walk_at "fwD"
        repeat walk_at "fw"
        generalize hhf : 1 + r1 = hf
        have hf1 : 1 ≤ hf := by omega
        have hf2 : 2 * hf ≤ whole - 1 := by omega
        refine g_pop (i := 3) (d := .str nm) v_names rfl lastAt ?_
        rw [dl]
        try dsimp only [List.set_cons_zero, List.set_cons_succ]
        repeat walk_at "fw"
        simp only [List.length_append, List.length_cons, List.length_nil] at hl hl2
        refine ⟨ds1, hf, dp, nr, by rw [show ((dp + 1 : Nat) : Int) - 1 = (dp : Nat) by omega]; rfl, wo1, hf1, by omega, by omega, by omega, by omega, by omega, fun s hs => hok s (by simp [hs]), fun ds2 l ra ua wo2 okl Fl evl en1 ul pl => ?_⟩
        walk_at "fwD"
        repeat walk_at "fw"
        refine ⟨small_mul (by decide) (by decide) (by omega) (by omega), ?_⟩
        repeat walk_at "fw"
        have lr := congrArg List.length en1
        rw [List.length_append] at lr
        refine ⟨ds2, hf, dp, ra, by rw [show ((dp + 1 : Nat) : Int) - 1 = (dp : Nat) by omega]; rfl, wo2, hf1, by omega, by omega, by omega, by omega, by omega, fun s hs => hok s (by rw [en1]; simp [hs]), fun ds3 r rb ub wo3 okr Fr evr en2 ur pr => ?_⟩
        walk_at "fwD"
        repeat walk_at "fw"
        refine q ds3 (.pu nm (whole - 2 * hf) l 2 r 5) rb (ub ++ ua ++ [nm]) wo3 ⟨hok nm (by simp), by omega, by omega, okl, by decide, by decide, okr, by decide, by decide⟩ ?_ ⟨by rw [Fl, Fr], evl, evr⟩ (by rw [en1, en2]; simp [List.append_assoc]) (by simp; omega) ?_
        · show ((whole - 2 * hf : Int) : Rat) + 4 * (l.F k0 * r.F k0) / (l.F k0 + r.F k0) = _
          rw [Fl, Fr]
          exact still_F (by omega)
        · rw [Hg.names_pu]
          exact (List.Perm.cons nm ((pl.append pr).trans List.perm_append_comm)).trans (List.perm_append_comm (l₁ := [nm]) (l₂ := ub ++ ua))
theorem g__law_still (T : Txt K mg) : ∀ n : Nat, GDef P w K mg base "_law_still" (n + 2) (spStillH n)
  | 0 => g_still_one T 0 (.inl rfl)
  | n + 1 => g_still_one T (n + 1) (.inr ⟨n, rfl, g__law_still T n⟩)
end
end KW

set_option Elab.async false
set_option linter.all false
set_option maxRecDepth 100000
set_option maxHeartbeats 4000000
namespace KW
open PySem PySem.Spec L2 FW
/-- the walk over data, a rule a step -/
local macro_rules | `(tactic| walk_at "fwS") => `(tactic| first
  | with_reducible refine b_cons ?_
  | with_reducible refine b_nil ?_
  | with_reducible refine s_if ?_
  | ((with_reducible refine' s_retO (by assumption) ?hr ?_); (case hr => with_unfolding_all rfl))
  | with_reducible refine s_ret ?_
  | ((with_reducible refine' s_par (by assumption) (by assumption) (by assumption) (by assumption) (by assumption) ?_ ?h1 ?h2 ?h3 ?h4 ?h5 ?h6 ?h7 ?h8); (case h1 => decide); (case h2 => rfl); (case h3 => decide); (case h4 => rfl); (case h5 => rfl); (case h6 => decide); (case h7 => decide); (case h8 => rfl))
  | ((with_reducible refine' s_expr ?_ ?hs); (case hs => rfl))
  | ((with_reducible show GoS _ (.Assign _ (.List _ _) _) _ _); (with_reducible refine' s_setO (by assumption) ?_ ?hs); (case hs => rfl))
  | ((with_reducible show GoS _ (.Assign [.Subscript _ _ _] _ _) _ _); (refine s_setIx (by assumption) (by with_unfolding_all rfl) ?_))
  | ((with_reducible refine' s_set (by assumption) ?_ ?hs); (case hs => with_unfolding_all rfl)))
local macro_rules | `(tactic| walk_at "fwV") => `(tactic| first
  | ((with_reducible refine' g_var (by assumption) ?hr ?_); (case hr => with_unfolding_all rfl))
  | with_reducible refine g_int ?_
  | ((with_reducible show GoV _ (.Subscript (.Name "table" _) _ _) _ _); (refine g_dix (by assumption) ?_))
  | ((with_reducible show GoV _ (.Subscript (.Call (.Name "dict" _) _ _ _) _ _) _ _); (refine g_dix (by assumption) ?_))
  | ((with_reducible refine' g_ixO (by assumption) ?ho ?_ ?hs); (case ho => with_unfolding_all rfl); (case hs => exact fun _ _ => rfl))
  | ((with_reducible refine' g_ix ?_ ?hs); (case hs => exact fun _ _ => rfl))
  | ((with_reducible show GoV _ (.BinOp (.List _ _) .Add _ _) _ _); (with_reducible refine v_e ?_); (with_reducible refine g_catL ?_))
  | ((with_reducible show GoV _ (.BinOp (.BinOp (.List _ _) .Add _ _) .Add _ _) _ _); (with_reducible refine v_e ?_); (with_reducible refine g_catL ?_))
  | with_reducible refine g_catT (b := .Tuple _ _ _) ?_
  | with_reducible refine g_add ?_
  | with_reducible refine g_mul ?_
  | with_reducible refine g_sub ?_
  | with_reducible refine g_tup ?_
  | ((with_reducible refine' g_lenSet (by assumption) (by assumption) (by assumption) ?_ ?h1); (case h1 => rfl))
  | ((with_reducible refine' g_lenO (by assumption) (by assumption) ?ho ?_ ?h1 ?h2 ?h3); (case ho => with_unfolding_all rfl); (case h1 => rfl); (case h2 => rfl); (case h3 => rfl))
  | ((with_reducible refine' g_len (by assumption) ?_ ?h1 ?h2); (case h1 => rfl); (case h2 => rfl))
  | with_reducible refine g_str ?_
  | with_reducible refine g_bl ?_
  | with_reducible refine g_non ?_
  | with_reducible refine g_glob (by assumption) ?_
  | with_reducible refine g_bltn (by assumption) ?_
  | with_reducible refine g_mod ?_
  | ((with_reducible refine' g_append (by assumption) ?ho ?_ ?h1 ?h2 ?h3); (case ho => with_unfolding_all rfl); (case h1 => exact ⟨rfl, rfl, rfl⟩); (case h2 => rfl); (case h3 => rfl))
  | ((with_reducible refine' g_popAt (by assumption) ?ho ?_ ?h1 ?h2 ?h3); (case ho => with_unfolding_all rfl); (case h1 => exact ⟨rfl, rfl, rfl⟩); (case h2 => rfl); (case h3 => rfl))
  | with_reducible refine g_fdiv ?_
  | with_reducible refine g_pow ?_
  | with_reducible refine g_neg ?_
  | ((with_reducible refine' g_abs (by assumption) ?_ ?h1 ?h2); (case h1 => rfl); (case h2 => rfl))
  | ((with_reducible refine' g_all ?hc (by assumption) ?_ ?h1 ?h2); (case hc => exact Ct.calm (by assumption)); (case h1 => rfl); (case h2 => rfl))
  | ((with_reducible refine' g_chain2 ?_ ?hm); (case hm => with_unfolding_all rfl))
  | ((with_reducible refine' g_get2 (by assumption) ?_ ?hm); (case hm => exact ⟨rfl, rfl, rfl, rfl⟩))
  | ((with_reducible refine' g_slT ?_))
  | with_reducible refine g_eqX (by assumption) ?_
  | with_reducible refine g_neX (by assumption) ?_
  | with_reducible refine g_isN ?_
  | ((with_reducible refine' g_isi (T := "") (C := "") (by assumption) ?_ ?h1 ?h2 ?h3); (case h1 => rfl); (case h2 => rfl); (case h3 => rfl))
  | with_reducible refine g_ifx ?_
  | with_reducible refine g_lt ?_
  | with_reducible refine g_le ?_
  | with_reducible refine g_gt ?_
  | with_reducible refine g_and ?_
  | with_reducible refine g_or ?_
  | with_reducible refine g_one ?_
  | with_reducible refine g_not ?_)
local macro_rules | `(tactic| walk_at "fwE") => `(tactic| first
  | ((with_reducible refine' g_call (by assumption) ?_ ?h1 ?h2); (case h1 => rfl); (case h2 => rfl))
  | ((with_reducible show GoE _ (.BinOp (.List _ _) .Add _ _) _ _); (with_reducible refine g_catL ?_))
  | ((with_reducible show GoE _ (.BinOp (.BinOp (.List _ _) .Add _ _) .Add _ _) _ _); (with_reducible refine g_catL ?_))
  | with_reducible refine g_lst ?_
  | with_reducible refine g_dnew ?_
  | ((with_reducible refine' g_sorted (by assumption) (by assumption) ?_ ?h1 ?h2); (case h1 => rfl); (case h2 => rfl))
  | ((with_reducible refine' g_dict (by assumption) (by assumption) ?_ ?h1 ?h2); (case h1 => rfl); (case h2 => rfl)))
local macro_rules | `(tactic| walk_at "fwT") => `(tactic| first
  | with_reducible refine t_lt ?_
  | with_reducible refine t_le ?_
  | with_reducible refine t_gt ?_
  | with_reducible refine t_ge ?_
  | with_reducible refine t_notN ?_
  | with_reducible refine t_isN ?_
  | ((with_reducible refine' t_nin ?_ ?hm); (case hm => rfl))
  | ((with_reducible refine' t_in ?_ ?hm); (case hm => rfl))
  | ((with_reducible refine' t_chain2 ?_ ?hm); (case hm => with_unfolding_all rfl))
  | with_reducible refine t_isnB ?_
  | with_reducible refine t_neX (by assumption) ?_
  | with_reducible refine t_eqX (by assumption) ?_
  | with_reducible refine t_not ?_
  | with_reducible refine t_and ?_
  | with_reducible refine t_or ?_
  | with_reducible refine w_and ?_
  | with_reducible refine w_and1 ?_
  | with_reducible refine w_or ?_
  | with_reducible refine w_or1 ?_
  | ((with_reducible refine' t_val ?_ ?h); (case h => intro _; rfl)))
local macro_rules | `(tactic| walk_at "fwA") => `(tactic| first
  | ((with_reducible refine' a_cons ?_ ?hs); (case hs => rfl))
  | with_reducible refine a_nil ?_
  | ((with_reducible refine' l_own (by assumption) ?ho ?_ ?hs); (case ho => exact ⟨_, _, rfl⟩); (case hs => rfl))
  | ((with_reducible refine' l_cons ?_ ?hs); (case hs => rfl))
  | with_reducible refine l_nil ?_)
local macro_rules | `(tactic| walk_at "fwX") => `(tactic| first
  | ((with_reducible refine' exIx ?h1 ?h2 ?h3 ?_); (case h1 => rfl); (case h2 => rfl); (case h3 => rfl))
  | ((with_reducible refine' exLen (n := 2) ?h1 ?_); (case h1 => rfl))
  | ((with_reducible refine' exLen (n := 6) ?h1 ?_); (case h1 => rfl))
  | ((with_reducible refine' exLen ?h1 ?_); (case h1 => rfl))
  | ((with_reducible refine' exIsi ?h1 ?h2 ?h3 ?_); (case h1 => rfl); (case h2 => rfl); (case h3 => rfl))
  | ((with_reducible refine' exIn ?h1 ?h2 ?h3 ?_); (case h1 => rfl); (case h2 => rfl); (case h3 => rfl))
  | ((with_reducible refine' bT ?h1 ?_); (case h1 => decide))
  | ((with_reducible refine' bF ?h1 ?_); (case h1 => decide))
  | ((with_reducible refine' exIxO ?h1 ?h2 ?h3 ?_); (case h1 => rfl); (case h2 => rfl); (case h3 => rfl))
  | ((with_reducible refine' exSet ?h1 ?h2 ?h3 ?_); (case h1 => rfl); (case h2 => rfl); (case h3 => rfl); (dsimp only [List.set_cons_zero, List.set_cons_succ]))
  | ((with_reducible refine' exOwn ?h1 ?_); (case h1 => exact ⟨_, _, rfl⟩))
  | with_reducible refine ⟨_, eqOk_int, ?_⟩
  | with_reducible refine ⟨_, eqOk_str, ?_⟩
  | with_reducible refine ⟨_, eqOk_fr, ?_⟩
  | with_reducible refine ⟨_, eqOk_bl, ?_⟩
  | ((with_reducible refine' leL ?h1 ?_); (case h1 => rfl))
  | ((with_reducible show npar _ _ = true ∧ _); (refine ⟨rfl, ?_⟩); (try dsimp only [List.set_cons_zero, List.set_cons_succ, A.loc]))
  | ((with_reducible show List.Nodup _ ∧ _); first | refine ⟨.nil, ?_⟩ | refine ⟨(by dsimp only [slots]; decide), ?_⟩)
  | with_reducible refine ⟨_, rfl, ?_⟩)
/-- behind a call: what was given back -/
local macro_rules | `(tactic| walk_at "fwD") => `(tactic| dsimp only [give, lend, lend1, slots, flag, A.frz, O.frz, A.loc, List.getElem?_cons_zero, List.getElem?_cons_succ, List.set_cons_zero, List.set_cons_succ])
local macro_rules | `(tactic| walk_at "fw") => `(tactic| first
  | ((with_reducible show GoV _ _ _ _); first
    | walk_at "fwV"
    | ((with_reducible refine v_e ?_); walk_at "fwE"))
  | ((with_reducible show GoE _ _ _ _); first
    | walk_at "fwE"
    | ((with_reducible refine e_v ?_); walk_at "fwV"))
  | ((with_reducible show WT _ _ _ _); walk_at "fwT")
  | ((with_reducible show WS _ _ _ _); walk_at "fwS")
  | walk_at "fwA"
  | walk_at "fwX")

section
variable {P : Program} {w : World} {K : PySem.W.Frag} {mg : Str → Option Value} {base : Heap}
def spPut (n : Nat) : FSp := fun as R _ => ∃ (h t : Hg) (nm : Str), as = [.val h.d, .val (.str nm), .val t.d] ∧ h.nw ≤ n ∧ n ≤ 8 ∧ R as (.val (putM nm t h).d)
theorem dG_map (f : Str × Rat × Rat → D) : ∀ (xs : List (Str × Rat × Rat)), (xs.map (·.1)).Nodup → ∀ x ∈ xs, dG (xs.map (·.1)) (xs.map f) x.1 = some (f x)
  | [], _, x, h => by cases h
  | y :: ys, nd, x, h => by
    rw [List.map_cons, List.nodup_cons] at nd
    rw [List.map_cons, List.map_cons, dG]
    rcases List.mem_cons.mp h with e | h
    · rw [e, if_pos rfl]
    · rw [if_neg (fun e : y.1 = x.1 => nd.1 (by rw [e]; exact List.mem_map_of_mem h))]
      exact dG_map f ys nd.2 x h
theorem runs0_names (h : Hg) : ((runs0 h).map (·.1)).Perm h.names := by
  rw [← Hg.runs_names k0 h 0 (h.F k0)]
  exact (srtR_perm _).map _
def spSame : FSp := fun as R _ => ∃ (h1 h2 : Hg) (gone : List Str), as = [.val h1.d, .val h2.d, .val (.lst (gone.map .str))] ∧ h1.Good ∧ h2.Good ∧ (∀ x ∈ runs0 h1, x.1 ∉ gone → x ∈ runs0 h2) ∧ h1.F k0 = h2.F k0 ∧ R as (.val (.bl true))
theorem fm_nil {α β : Type} (xs : List α) : xs.flatMap (fun _ => ([] : List β)) = [] := by simp
theorem inS_str (s : Str) (gone : List Str) : inS (.str s) (gone.map .str) = decide (s ∈ gone) := by
  unfold inS
  rw [List.any_map]
  rw [Bool.eq_iff_iff]
  simp [eqS]
end

end KW

set_option Elab.async false
set_option linter.all false
set_option maxRecDepth 100000
set_option maxHeartbeats 4000000
namespace KW
open PySem PySem.Spec L2 FW
/-- the walk over data, a rule a step -/
local macro_rules | `(tactic| walk_at "fwS") => `(tactic| first
  | ((with_reducible refine b_cut ?_); intro _ _)
  | with_reducible refine b_sub (by assumption) ?_
  | with_reducible refine b_cons ?_
  | with_reducible refine b_nil ?_
  | with_reducible refine s_if ?_
  | ((with_reducible refine' s_retO (by assumption) ?hr ?_); (case hr => with_unfolding_all rfl))
  | with_reducible refine s_ret ?_
  | ((with_reducible refine' s_par (by assumption) (by assumption) (by assumption) (by assumption) (by assumption) ?_ ?h1 ?h2 ?h3 ?h4 ?h5 ?h6 ?h7 ?h8); (case h1 => decide); (case h2 => rfl); (case h3 => decide); (case h4 => rfl); (case h5 => rfl); (case h6 => decide); (case h7 => decide); (case h8 => rfl))
  | ((with_reducible refine' s_expr ?_ ?hs); (case hs => rfl))
  | ((with_reducible show GoS _ (.Assign _ (.List _ _) _) _ _); (with_reducible refine' s_setO (by assumption) ?_ ?hs); (case hs => rfl))
  | ((with_reducible show GoS _ (.Assign [.Subscript _ _ _] _ _) _ _); (refine s_setIx (by assumption) (by with_unfolding_all rfl) ?_))
  | ((with_reducible refine' s_set (by assumption) ?_ ?hs); (case hs => with_unfolding_all rfl)))
local macro_rules | `(tactic| walk_at "fwV") => `(tactic| first
  | ((with_reducible refine' g_var (by assumption) ?hr ?_); (case hr => with_unfolding_all rfl))
  | with_reducible refine g_int ?_
  | ((with_reducible show GoV _ (.Subscript (.Name "table" _) _ _) _ _); (refine g_dix (by assumption) ?_))
  | ((with_reducible show GoV _ (.Subscript (.Call (.Name "dict" _) _ _ _) _ _) _ _); (refine g_dix (by assumption) ?_))
  | ((with_reducible refine' g_ixO (by assumption) ?ho ?_ ?hs); (case ho => with_unfolding_all rfl); (case hs => exact fun _ _ => rfl))
  | ((with_reducible refine' g_ix ?_ ?hs); (case hs => exact fun _ _ => rfl))
  | ((with_reducible show GoV _ (.BinOp (.List _ _) .Add _ _) _ _); (with_reducible refine v_e ?_); (with_reducible refine g_catL ?_))
  | ((with_reducible show GoV _ (.BinOp (.BinOp (.List _ _) .Add _ _) .Add _ _) _ _); (with_reducible refine v_e ?_); (with_reducible refine g_catL ?_))
  | with_reducible refine g_catT (b := .Tuple _ _ _) ?_
  | with_reducible refine g_add ?_
  | with_reducible refine g_mul ?_
  | with_reducible refine g_sub ?_
  | with_reducible refine g_tup ?_
  | ((with_reducible refine' g_lenSet (by assumption) (by assumption) (by assumption) ?_ ?h1); (case h1 => rfl))
  | ((with_reducible refine' g_lenO (by assumption) (by assumption) ?ho ?_ ?h1 ?h2 ?h3); (case ho => with_unfolding_all rfl); (case h1 => rfl); (case h2 => rfl); (case h3 => rfl))
  | ((with_reducible refine' g_len (by assumption) ?_ ?h1 ?h2); (case h1 => rfl); (case h2 => rfl))
  | with_reducible refine g_str ?_
  | with_reducible refine g_bl ?_
  | with_reducible refine g_non ?_
  | with_reducible refine g_glob (by assumption) ?_
  | with_reducible refine g_bltn (by assumption) ?_
  | with_reducible refine g_mod ?_
  | ((with_reducible refine' g_append (by assumption) ?ho ?_ ?h1 ?h2 ?h3); (case ho => with_unfolding_all rfl); (case h1 => exact ⟨rfl, rfl, rfl⟩); (case h2 => rfl); (case h3 => rfl))
  | ((with_reducible refine' g_popAt (by assumption) ?ho ?_ ?h1 ?h2 ?h3); (case ho => with_unfolding_all rfl); (case h1 => exact ⟨rfl, rfl, rfl⟩); (case h2 => rfl); (case h3 => rfl))
  | with_reducible refine g_fdiv ?_
  | with_reducible refine g_pow ?_
  | with_reducible refine g_neg ?_
  | ((with_reducible refine' g_abs (by assumption) ?_ ?h1 ?h2); (case h1 => rfl); (case h2 => rfl))
  | ((with_reducible refine' g_all ?hc (by assumption) ?_ ?h1 ?h2); (case hc => exact Ct.calm (by assumption)); (case h1 => rfl); (case h2 => rfl))
  | ((with_reducible refine' g_chain2 ?_ ?hm); (case hm => with_unfolding_all rfl))
  | ((with_reducible refine' g_get2 (by assumption) ?_ ?hm); (case hm => exact ⟨rfl, rfl, rfl, rfl⟩))
  | ((with_reducible refine' g_slT ?_))
  | with_reducible refine g_eqX (by assumption) ?_
  | with_reducible refine g_neX (by assumption) ?_
  | with_reducible refine g_isN ?_
  | ((with_reducible refine' g_isi (T := "") (C := "") (by assumption) ?_ ?h1 ?h2 ?h3); (case h1 => rfl); (case h2 => rfl); (case h3 => rfl))
  | with_reducible refine g_ifx ?_
  | with_reducible refine g_lt ?_
  | with_reducible refine g_le ?_
  | with_reducible refine g_gt ?_
  | with_reducible refine g_and ?_
  | with_reducible refine g_or ?_
  | with_reducible refine g_one ?_
  | with_reducible refine g_not ?_)
local macro_rules | `(tactic| walk_at "fwE") => `(tactic| first
  | ((with_reducible refine' g_call (by assumption) ?_ ?h1 ?h2); (case h1 => rfl); (case h2 => rfl))
  | ((with_reducible show GoE _ (.BinOp (.List _ _) .Add _ _) _ _); (with_reducible refine g_catL ?_))
  | ((with_reducible show GoE _ (.BinOp (.BinOp (.List _ _) .Add _ _) .Add _ _) _ _); (with_reducible refine g_catL ?_))
  | with_reducible refine g_lst ?_
  | with_reducible refine g_dnew ?_
  | ((with_reducible refine' g_sorted (by assumption) (by assumption) ?_ ?h1 ?h2); (case h1 => rfl); (case h2 => rfl))
  | ((with_reducible refine' g_dict (by assumption) (by assumption) ?_ ?h1 ?h2); (case h1 => rfl); (case h2 => rfl)))
local macro_rules | `(tactic| walk_at "fwT") => `(tactic| first
  | with_reducible refine t_lt ?_
  | with_reducible refine t_le ?_
  | with_reducible refine t_gt ?_
  | with_reducible refine t_ge ?_
  | with_reducible refine t_notN ?_
  | with_reducible refine t_isN ?_
  | ((with_reducible refine' t_nin ?_ ?hm); (case hm => rfl))
  | ((with_reducible refine' t_in ?_ ?hm); (case hm => rfl))
  | ((with_reducible refine' t_chain2 ?_ ?hm); (case hm => with_unfolding_all rfl))
  | with_reducible refine t_isnB ?_
  | with_reducible refine t_neX (by assumption) ?_
  | with_reducible refine t_eqX (by assumption) ?_
  | with_reducible refine t_not ?_
  | with_reducible refine t_and ?_
  | with_reducible refine t_or ?_
  | with_reducible refine w_and ?_
  | with_reducible refine w_and1 ?_
  | with_reducible refine w_or ?_
  | with_reducible refine w_or1 ?_
  | ((with_reducible refine' t_val ?_ ?h); (case h => intro _; rfl)))
local macro_rules | `(tactic| walk_at "fwA") => `(tactic| first
  | ((with_reducible refine' a_cons ?_ ?hs); (case hs => rfl))
  | with_reducible refine a_nil ?_
  | ((with_reducible refine' l_own (by assumption) ?ho ?_ ?hs); (case ho => exact ⟨_, _, rfl⟩); (case hs => rfl))
  | ((with_reducible refine' l_cons ?_ ?hs); (case hs => rfl))
  | with_reducible refine l_nil ?_)
local macro_rules | `(tactic| walk_at "fwX") => `(tactic| first
  | ((with_reducible refine' exIx ?h1 ?h2 ?h3 ?_); (case h1 => rfl); (case h2 => rfl); (case h3 => rfl))
  | ((with_reducible refine' exLen (n := 2) ?h1 ?_); (case h1 => rfl))
  | ((with_reducible refine' exLen (n := 6) ?h1 ?_); (case h1 => rfl))
  | ((with_reducible refine' exLen ?h1 ?_); (case h1 => rfl))
  | ((with_reducible refine' exIsi ?h1 ?h2 ?h3 ?_); (case h1 => rfl); (case h2 => rfl); (case h3 => rfl))
  | ((with_reducible refine' exIn ?h1 ?h2 ?h3 ?_); (case h1 => rfl); (case h2 => rfl); (case h3 => rfl))
  | ((with_reducible refine' bT ?h1 ?_); (case h1 => decide))
  | ((with_reducible refine' bF ?h1 ?_); (case h1 => decide))
  | ((with_reducible refine' exIxO ?h1 ?h2 ?h3 ?_); (case h1 => rfl); (case h2 => rfl); (case h3 => rfl))
  | ((with_reducible refine' exSet ?h1 ?h2 ?h3 ?_); (case h1 => rfl); (case h2 => rfl); (case h3 => rfl); (dsimp only [List.set_cons_zero, List.set_cons_succ]))
  | ((with_reducible refine' exOwn ?h1 ?_); (case h1 => exact ⟨_, _, rfl⟩))
  | with_reducible refine ⟨_, eqOk_int, ?_⟩
  | with_reducible refine ⟨_, eqOk_str, ?_⟩
  | with_reducible refine ⟨_, eqOk_fr, ?_⟩
  | with_reducible refine ⟨_, eqOk_bl, ?_⟩
  | ((with_reducible refine' leL ?h1 ?_); (case h1 => rfl))
  | ((with_reducible show npar _ _ = true ∧ _); (refine ⟨rfl, ?_⟩); (try dsimp only [List.set_cons_zero, List.set_cons_succ, A.loc]))
  | ((with_reducible show List.Nodup _ ∧ _); first | refine ⟨.nil, ?_⟩ | refine ⟨(by dsimp only [slots]; decide), ?_⟩)
  | with_reducible refine ⟨_, rfl, ?_⟩)
/-- behind a call: what was given back -/
local macro_rules | `(tactic| walk_at "fwD") => `(tactic| dsimp only [give, lend, lend1, slots, flag, A.frz, O.frz, A.loc, List.getElem?_cons_zero, List.getElem?_cons_succ, List.set_cons_zero, List.set_cons_succ])
local macro_rules | `(tactic| walk_at "fw") => `(tactic| first
  | ((with_reducible show GoV _ _ _ _); first
    | walk_at "fwV"
    | ((with_reducible refine v_e ?_); walk_at "fwE"))
  | ((with_reducible show GoE _ _ _ _); first
    | walk_at "fwE"
    | ((with_reducible refine e_v ?_); walk_at "fwV"))
  | ((with_reducible show WT _ _ _ _); walk_at "fwT")
  | ((with_reducible show WS _ _ _ _); walk_at "fwS")
  | walk_at "fwA"
  | walk_at "fwX")
/-- to the end of a block -/
local macro_rules | `(tactic| walk_at "fwN") => `(tactic| first
  | (with_reducible refine b_nil ?_)
  | (walk_at "fw"; walk_at "fwN"))
local macro_rules | `(tactic| walk_at "fwV") => `(tactic| ((with_reducible show GoV _ (.Subscript (.Name "run" _) _ _) _ _); (refine g_dix (by assumption) ?_)))
local macro_rules | `(tactic| walk_at "fwV") => `(tactic| ((with_reducible show GoV _ (.Subscript (.Name "pull" _) _ _) _ _); (refine g_dix (by assumption) ?_)))
local macro_rules | `(tactic| walk_at "fwV") => `(tactic| ((with_reducible show GoV _ (.Subscript (.Name "table" _) _ _) _ _); (refine g_dix (by assumption) ?_)))
section
variable {P : Program} {w : World} {K : PySem.W.Frag} {mg : Str → Option Value} {base : Heap}
def spLaw : FSp := fun as R _ => ∃ xs : List Int, as = [.val (.rdl (xs.map .int))] ∧ xs.length ≤ 63 ∧ R as (.val (.bl true))
def nm17 : List Str := ("abcdefghijklmnopq" : Str).cps.toList.map fun c => ("b" : Str) ++ (⟨#[c]⟩ : Str)
theorem nm17_ok : nm17.length = 17 ∧ nm17.Nodup ∧ ∀ s ∈ nm17, NmOk s := by
  refine ⟨by decide +kernel, by decide +kernel, ?_⟩
  have h : ∀ s ∈ nm17, (decide (1 ≤ s.length) && decide (s.length ≤ 8) && s.cps.toList.all fun c => letters.cps.toList.contains c) = true := by decide +kernel
  intro s hs
  have h1 := h s hs
  simp only [Bool.and_eq_true, decide_eq_true_eq, List.all_eq_true] at h1
  exact ⟨h1.1.1, h1.1.2, fun c hc => by simpa using h1.2 c hc⟩
theorem runs0_mem (h : Hg) (x : Str × Rat × Rat) : x ∈ runs0 h ↔ x ∈ Hg.runsM k0 h 0 (h.F k0) := (srtR_perm _).mem_iff
theorem runs0_nm {h : Hg} (ok : h.Good) : (runs0 h).map (·.1) = sstr h.names := by
  have e := nm_sort (α := Str × Rat × Rat) (·.1) (fun x => toP (rw3 x)) (fun x => [.tuple [.int x.2.1.num, .int x.2.1.den], .tuple [.int x.2.2.num, .int x.2.2.den]]) (fun x => toP_rw3 x) (l := Hg.runsM k0 h 0 (h.F k0)) (by rw [Hg.runs_names]; exact ok.nd)
  rw [Hg.runs_names] at e
  exact e
theorem Good.root {h : Hg} (ok : h.Good) : (h.nm, (0 : Rat), h.F k0) ∈ runs0 h := (runs0_mem h _).mpr (Hg.runs_top h _ _)
theorem runs0_sz {h : Hg} (ok : h.Good) : ∀ x ∈ runs0 h, Sz 2001 x.2.1 ∧ Sz 2001 x.2.2 := fun x hx => by
  have n8 := ok.nw
  refine Hg.runs_sz kd0.ok 8 ok.ok ok.nw (by omega) ?_ ?_ ((Hg.F_sz kd0.ok ok.ok).mono (by omega)) x ((runs0_mem h x).mp hx)
  · have e : (1 : Rat) - 0 = 1 := by grind
    rw [e]
    exact (sz_int (n := 1) (a := 1) (by decide) (by decide)).mono (by omega)
  · exact (sz_int (n := 0) (a := 1) (by decide) (by decide)).mono (by omega)
theorem stillB_even {h : Hg} (ok : h.Good) : stillB h = h.things.all (Hg.evenT k0) := by
  rw [Bool.eq_iff_iff, Hg.even_all, ← Hg.still_even kd0.ok ok.ok (h.F k0)]
  unfold stillB
  rw [List.all_map, List.all_eq_true]
  constructor
  · intro z x hx
    simpa using z x ((runs0_mem h x).mpr hx)
  · intro z x hx
    simpa using z x ((runs0_mem h x).mp hx)
/-- the speeds by the law's own reckoning are the same dict -/
theorem speeds_dic {h : Hg} (ok : h.Good) : DicEq (((runs0 h).map row1).map (·.1)) (((runs0 h).map row1).map (·.2)) ((Hg.runsM k0 h 0 0).map (·.1)) ((Hg.runsM k0 h 0 0).map fun x => fr x.2.1) where
  len := by
    have h1 := runs0_len h
    have h2 := Hg.runs_len k0 h 0 0
    simp only [List.length_map]
    omega
  at' := fun p hp => by
    rw [List.map_map, List.map_map, List.zip_map'] at hp
    obtain ⟨x, hx, rfl⟩ := List.mem_map.mp hp
    have m1 : (x.1, x.2.1) ∈ (Hg.runsM k0 h 0 (h.F k0)).map (fun x => (x.1, x.2.1)) := List.mem_map_of_mem (f := fun x : Str × Rat × Rat => (x.1, x.2.1)) ((runs0_mem h x).mp hx)
    rw [Hg.runs_p (fun n s => (n, s)) h 0 (h.F k0) 0] at m1
    obtain ⟨y, hy, e⟩ := List.mem_map.mp m1
    have e1 : y.1 = x.1 := (Prod.mk.inj e).1
    have e2 : y.2.1 = x.2.1 := (Prod.mk.inj e).2
    have nd : ((Hg.runsM k0 h 0 0).map (·.1)).Nodup := by rw [Hg.runs_names]; exact ok.nd
    have hd := dG_map (fun x => fr x.2.1) _ nd y hy
    rw [e1, e2] at hd
    exact ⟨_, hd, fr_cmp _, fr_cmp _, by
      show eqP (fr x.2.1) (fr x.2.1) = true
      rw [fr_eqP]
      exact decide_eq_true rfl⟩
theorem loopC_eq {X : Cx} {scope : Scope} {t : TG} {ifs : List Expr} {elt : Expr} {vs : List Nat} {ds ds' acc : List D} {ρ : Rho} {Kt : Rho → List D → Prop} (e : ds = ds') (h : LoopC X scope t ifs elt vs ds' acc ρ Kt) : LoopC X scope t ifs elt vs ds acc ρ Kt := e ▸ h
theorem prs_row (f : Str × Rat × Rat → Str × D) (xs : List (Str × Rat × Rat)) : prs (xs.map f) = xs.map fun x => .tup [.str (f x).1, (f x).2] := by rw [prs, List.map_map]; rfl
theorem ok_law (T : Txt K mg) {f : Addr} {fd : FuncData} (F : L2.Fun K "law" "law" s_law f fd) : FnOk P w K mg base CX0 40 f fd P_law (SpOf K spLaw) := by
  refine fok F sc_law (fun as R RX ⟨_, e, _⟩ => by subst e; rfl) fun g as R RX hg ⟨xs, e, hx, q⟩ => ?_
  subst e
  obtain ⟨v_script, v_k, v_well, v_names, v_still, v_hanging, v_told, v_pulls, v_run, v_pull, v_still_so, w_script, w_k, w_well, w_names, w_still, w_hanging, w_told, w_pulls, w_run, w_pull, w_still_so, l_script, l_k, l_well, l_names, l_still, l_hanging, l_told, l_pulls, l_pull, l_still_so, b_range, b_max, b_min, b_len, b_dict, ct⟩ := fx_law T hg
  have c01 := ca_law__law_well hg (g__law_well T) (by omega)
  have c02 := ca_law__law_hanging hg (g__law_hanging T) (by omega)
  have c03 := ca_law__law_still hg (g__law_still T 3) (by omega)
  have c04 := ca_law__law_take hg (g__law_take T) (by omega)
  have c05 := ca_law_held hg (g_held T) (by omega)
  have c06 := ca_law_speeds hg (g_speeds T) (by omega)
  have c07 := ca_law_names_of hg (g_names_of T) (by omega)
  have c08 := ca_law__law_agrees hg (g__law_agrees T 8) (by omega)
  have c09 := ca_law__law_speeds hg (g__law_speeds T 8) (by omega)
  have c10 := ca_law__law_says hg (g__law_says T) (by omega)
  have c11 := ca_law_rests hg (g_rests T) (by omega)
  have c12 := ca_law__law_even hg (g__law_even T) (by omega)
  have e33 : (2 : Int) ^ 33 = 8589934592 := by decide
  obtain ⟨n17a, n17b, n17c⟩ := nm17_ok
  have hrun : g.X.env.kindOf ("run" : Str) = some .cell := by
    show g.X.env.scope.names.lookup ("run" : Str) = _
    rw [hg.sce rfl]
    decide +kernel
  conv => arg 2; whnf
  show GoB g _ [some (.val (.rdl (xs.map .int))), none, none, none, none, none, none, none, none, none, none, none, none, none] _
  refine b_cut fun r0 hr0 => s_forR1 ct (pg_name w_k.nd w_k.hN w_k.hl w_k.hf) b_range ?_
  refine g_max2 ct.calm b_max ?_
  refine g_int ⟨_, rfl, g_min2 ct.calm b_min (g_int ⟨_, rfl, ?_⟩)⟩
  repeat walk_at "fw"
  have hb0 : ∀ {n : Int}, 0 ≤ n → n ≤ 63 → (if (if n < 40 then n else 40) > 5 then (if n < 40 then n else 40) else 5) ≤ 40 ∧ 5 ≤ (if (if n < 40 then n else 40) > 5 then (if n < 40 then n else 40) else 5) := by
    intro n h0 h1
    split <;> split <;> omega
  obtain ⟨n1, n2⟩ := hb0 (n := ((xs.map D.int).length : Nat)) (by omega) (by simp; omega)
  generalize (if (if ((xs.map D.int).length : Int) < 40 then ((xs.map D.int).length : Int) else 40) > 5 then (if ((xs.map D.int).length : Int) < 40 then ((xs.map D.int).length : Int) else 40) else 5) = n at n1 n2 ⊢
  have e62 : (2 : Int) ^ 62 = 4611686018427387904 := by decide
  refine ⟨by omega, by omega, loop_k (x := some (.val (.rdl (xs.map .int)))) (m := 12) ⟨List.replicate 13 none, rfl, rfl, rfl⟩ ?_ ?_⟩
  · intro d hd
    obtain ⟨k, hk, rfl⟩ : ∃ k : Int, (0 ≤ k ∧ k ≤ 40) ∧ d = .int k := by
      obtain ⟨i, hi, e⟩ := List.mem_map.mp hd
      refine ⟨_, ⟨?_, ?_⟩, e.symm⟩
      · omega
      · have := List.mem_range.mp hi
        omega
    show GoB g _ [some (.val (.rdl (xs.map .int))), some (.val (.int k)), none, none, none, none, none, none, none, none, none, none, none, none] _
    refine b_cut fun r1 hr1 => s_setO w_well ?_
    repeat walk_at "fw"
    refine ⟨xs, k, rfl, by omega, hk.1, by omega, fun ds wo => ?_⟩
    walk_at "fwD"
    repeat walk_at "fw"
    refine s_lc hg w_names l_names (own := [("sign", 11)]) (by decide +kernel) (pgb_name (i := 11) hg rfl rfl) (by decide) (i_str ?_) (by decide) (by decide +kernel)
    repeat walk_at "fw"
    show LoopC _ _ _ _ _ _ (("abcdefghijklmnopq" : Str).cps.toList.map fun c => D.str ⟨#[c]⟩) [] _ _
    refine loopC_on (fun c => D.str ⟨#[c]⟩) (fun c => [.str (("b" : Str) ++ (⟨#[c]⟩ : Str))]) rfl _ _ (by decide +kernel) (fun c hc => ?_) ?_
    · refine gv_name rfl (.head _) fun X' bX => ⟨fun _ X'' bX => ?_, fun h => absurd h (by decide)⟩
      have hb := hg.blk bX rfl
      have v_sign := hb.v (l := [("sign", 11)]) (by decide +kernel) (.head _)
      refine g_addS ?_
      repeat walk_at "fw"
      exact ⟨rfl, rfl, rfl⟩
    rw [List.nil_append, fm_map, show (("abcdefghijklmnopq" : Str).cps.toList.map fun c => D.str (("b" : Str) ++ (⟨#[c]⟩ : Str))) = nm17.map .str by rw [nm17, List.map_map]; rfl]
    refine ⟨rfl, ?_⟩
    try dsimp only [List.set_cons_zero, List.set_cons_succ]
    repeat walk_at "fw"
    refine ⟨ds, 1000, rfl, wo, by omega, by omega, fun ds1 r1 wo1 a1 b1 => ?_⟩
    walk_at "fwD"
    repeat walk_at "fw"
    refine ⟨ds1, 4, rfl, wo1, by omega, by omega, fun ds2 r2 wo2 a2 b2 => ?_⟩
    walk_at "fwD"
    repeat walk_at "fw"
    obtain ⟨deep, rfl⟩ : ∃ deep : Nat, r2 = deep := ⟨r2.toNat, by omega⟩
    have pd : 2 ^ (deep + 1) ≤ 16 := Nat.pow_le_pow_right (n := 2) (by decide) (show deep + 1 ≤ 4 by omega)
    refine ⟨ds2, 1 + r1, deep, nm17, rfl, wo2, by omega, by omega, by omega, by omega, by omega, by omega, n17c, fun ds3 sh rest used wo3 oks Fs evs en ul pn => ?_⟩
    have gs : sh.Good := by
      refine ⟨oks, ?_, ?_⟩
      · have h1 := sh.things_len
        have h2 : sh.names.length = sh.things.length := List.length_map _
        have h3 := pn.length_eq
        omega
      · refine pn.nodup_iff.mpr ?_
        rw [en] at n17b
        exact (List.nodup_append.mp n17b).2.1
    walk_at "fwD"
    repeat walk_at "fw"
    refine s_for ct (pg_name w_hanging.nd w_hanging.hN w_hanging.hl w_hanging.hf) (i_list ?_)
    repeat walk_at "fw"
    refine ⟨ds3, 8, rfl, wo3, by omega, by omega, fun ds4 h0 wo4 okh nwh ndh plh => ?_⟩
    have gd0 : h0.Good := ⟨okh, by omega, ndh⟩
    walk_at "fwD"
    repeat walk_at "fw"
    refine loop_is Hg.d [0, 4] [some (.val (.rdl (xs.map .int))), none, none, none, some (.val sh.d), none, none, none, none, none, none, none, none, none] (fun hs => ∀ h ∈ hs, h.Good) rfl ?_ ?_ [h0, sh] _ ⟨rfl, rfl⟩ (by
      intro h hh
      rcases List.mem_cons.mp hh with z | z
      · rw [z]; exact gd0
      · rw [List.mem_singleton.mp z]; exact gs)
    · intro h hs hg2
      have gd := hg2 h (List.mem_cons_self ..)
      have gr := fun h' m => hg2 h' (List.mem_cons_of_mem _ m)
      show GoB g _ [some (.val (.rdl (xs.map .int))), none, none, none, some (.val sh.d), some (.val h.d), none, none, none, none, none, none, none, none] _
      have rl := runs0_len h
      have h8 := gd.nw
      have ndr : ((runs0 h).map (·.1)).Nodup := (runs0_names h).nodup_iff.mpr gd.nd
      have nmok : ∀ x ∈ runs0 h, NmOk x.1 := fun x hx => names_ok gd.ok _ ((runs0_names h).mem_iff.mp (List.mem_map_of_mem hx))
      have c13 := Here.q hg
      refine b_cut fun r5 hr5 => s_parO ct w_told w_pulls l_told l_pulls ?_ (by decide) rfl (by decide) rfl rfl (by decide) (by decide) rfl
      repeat walk_at "fw"
      refine ⟨h, rfl, gd, ?_⟩
      walk_at "fwD"
      repeat walk_at "fw"
      refine ⟨h, rfl, gd, ?_⟩
      walk_at "fwD"
      refine ⟨rfl, rfl, ?_⟩
      try dsimp only [List.set_cons_zero, List.set_cons_succ, A.loc]
      subst hr5
      have names1 : (runs0 h).map (fun x => D.str x.1) = (sstr h.names).map D.str := by rw [← runs0_nm gd, List.map_map]; rfl
      have sok : ∀ s ∈ sstr h.names, NmOk s := fun s hs => names_ok gd.ok s ((sstr_perm _).mem_iff.mp hs)
      refine b_cut fun r6 hr6 => s_if ?_
      walk_at "fw"
      walk_at "fw"
      refine t_peek (i := 6) rfl ?_
      walk_at "fw"
      refine v_e (g_lc c13 (own := [("row", 12)]) (by decide +kernel) (pgb_name (i := 12) c13 rfl rfl) (by decide) (i_list ?_))
      repeat walk_at "fw"
      refine ⟨by simp [prs]; omega, loopC_eq (prs_row _ _) (loopC_on (fun x => .tup [.str (row1 x).1, (row1 x).2]) (fun x => [.str x.1]) rfl _ _ (by simp; omega) (fun x hx => ?_) ?_)⟩
      · refine gv_name rfl (.head _) fun X' bX => ⟨fun _ X'' bX => ?_, fun h => absurd h (by decide)⟩
        have hb := c13.blk bX rfl
        have v_row := hb.v (l := [("row", 12)]) (by decide +kernel) (.head _)
        repeat walk_at "fw"
        exact ⟨rfl, rfl, rfl⟩
      rw [List.nil_append, fm_map, names1]
      repeat walk_at "fw"
      refine ⟨h, rfl, gd, ?_⟩
      walk_at "fwD"
      refine ⟨_, eqOk_strs sok sok, ?_⟩
      rw [decide_eq_true rfl]
      walk_at "fw"
      walk_at "fw"
      refine t_peek (i := 7) rfl ?_
      walk_at "fw"
      refine v_e (g_lc c13 (own := [("row", 12)]) (by decide +kernel) (pgb_name (i := 12) c13 rfl rfl) (by decide) (i_list ?_))
      repeat walk_at "fw"
      refine ⟨by simp [prs]; omega, loopC_eq (prs_row _ _) (loopC_on (fun x => .tup [.str (row2 x).1, (row2 x).2]) (fun x => [.str x.1]) rfl _ _ (by simp; omega) (fun x hx => ?_) ?_)⟩
      · refine gv_name rfl (.head _) fun X' bX => ⟨fun _ X'' bX => ?_, fun h => absurd h (by decide)⟩
        have hb := c13.blk bX rfl
        have v_row := hb.v (l := [("row", 12)]) (by decide +kernel) (.head _)
        repeat walk_at "fw"
        exact ⟨rfl, rfl, rfl⟩
      rw [List.nil_append, fm_map, names1]
      repeat walk_at "fw"
      refine ⟨h, rfl, gd, ?_⟩
      walk_at "fwD"
      refine ⟨_, eqOk_strs sok sok, ?_⟩
      rw [decide_eq_true rfl]
      walk_at "fwN"
      subst hr6
      show GoB g _ _ _
      refine b_cut fun r7 hr7 => s_asg (pg_tup ct.calm (pgs_cons (pg_name w_run.nd w_run.hN w_run.hl w_run.hf) (pgs_cons (pg_name w_pull.nd w_pull.hN w_pull.hl w_pull.hf) pgs_nil))) ?_ rfl (cel_sw (.inl hrun)) rfl
      refine g_tup ?_
      refine a_cons ?_ rfl
      refine v_e ?_
      refine g_dictO ct b_dict v_told rfl ?_ ?_
      · simpa [List.map_map, Function.comp_def, row1] using ndr
      refine a_cons ?_ rfl
      refine v_e ?_
      refine g_dictO ct b_dict v_pulls rfl ?_ ?_
      · simpa [List.map_map, Function.comp_def, row2] using ndr
      refine a_nil ⟨by show 2 ≤ 100000; decide, ?_⟩
      refine wg_tup rfl (wgs_cons (wg_name rfl (wgs_cons (wg_name rfl (wgs_nil ?_)))))
      try dsimp only [List.set_cons_zero, List.set_cons_succ]
      subst hr7
      obtain ⟨hds, hd1, hd2⟩ := hg_at0 h
      have rt := Good.root gd
      have hdG : dG (((runs0 h).map row1).map (·.1)) (((runs0 h).map row1).map (·.2)) h.nm = some (fr 0) := by
        rw [List.map_map, List.map_map]
        exact dG_map (fun x => fr x.2.1) _ ndr _ rt
      refine b_cut fun r8 hr8 => ?_
      repeat walk_at "fw"
      refine ⟨0, hds, _, rfl, hd1, hd2, _, _, _, _, rfl, rfl, hdG, ?_⟩
      repeat walk_at "fw"
      refine ⟨_, (show eqOk (fr 0) (.tup [.int 0, .int 1]) _ from eqOk_fr (n := 0)), ?_⟩
      rw [decide_eq_true rfl]
      repeat walk_at "fw"
      have rsz := runs0_sz gd
      have hdA : ∀ x ∈ runs0 h, dG (((runs0 h).map row1).map (·.1)) (((runs0 h).map row1).map (·.2)) x.1 = some (fr x.2.1) ∧ dG (((runs0 h).map row2).map (·.1)) (((runs0 h).map row2).map (·.2)) x.1 = some (fr x.2.2) := fun x hx => by
        rw [List.map_map, List.map_map, List.map_map, List.map_map]
        exact ⟨dG_map (fun x => fr x.2.1) _ ndr _ hx, dG_map (fun x => fr x.2.2) _ ndr _ hx⟩
      refine ⟨h, _, _, _, _, 0, rfl, gd.ok, gd.nw, by omega, fun x hx => ?_, ?_⟩
      · have e0 : h.F k0 * (1 - 0) = h.F k0 := by grind
        rw [e0] at hx
        have hx' := (runs0_mem h x).mpr hx
        exact ⟨(hdA x hx').1, (hdA x hx').2, (rsz x hx').1, (rsz x hx').2⟩
      walk_at "fwD"
      walk_at "fwN"
      subst hr8
      show GoB g _ _ _
      refine b_cut fun r9 hr9 => s_if (t_neDic ct ?_)
      repeat walk_at "fw"
      have s1 : Sz (2000 - 200 * 8) (1 - (0 : Rat)) := by
        have e : (1 : Rat) - 0 = 1 := by grind
        rw [e]
        exact (sz_int (n := 1) (a := 1) (by decide) (by decide)).mono (by omega)
      refine ⟨h, k0, [], [], 0, rfl, kd0, gd.ok, gd.nd, gd.nw, by omega, s1, (sz_int (n := 0) (a := 1) (by decide) (by decide)).mono (by omega), ?_⟩
      walk_at "fwD"
      refine ⟨_, _, _, _, rfl, rfl, speeds_dic gd, ?_⟩
      walk_at "fwN"
      subst hr9
      show GoB g _ _ _
      refine b_cut fun r10 hr10 => s_set w_still_so ?_
      walk_at "fw"
      refine v_e (e_lock (i := 8) rfl ?_)
      refine g_lc c13 (own := [("name", 13)]) (by decide +kernel) (pgb_name (i := 13) c13 rfl rfl) (by decide) (i_keys ?_)
      repeat walk_at "fw"
      refine ⟨_, _, rfl, ?_⟩
      have ri : nfs (List.map D.int xs) = true := nfs_map D.int (fun _ => rfl) xs
      have rr1 : ∀ xs, nfs (prs (List.map row1 xs)) = true := fun xs => nfs_rows (fun x => x.2.1) xs
      have rr2 : ∀ xs, nfs (prs (List.map row2 xs)) = true := fun xs => nfs_rows (fun x => x.2.2) xs
      have rv1 : ∀ xs, nfs (List.map (fun x => x.2) (List.map row1 xs)) = true := fun xs => nfs_rowV (fun x => x.2.1) xs
      have rv2 : ∀ xs, nfs (List.map (fun x => x.2) (List.map row2 xs)) = true := fun xs => nfs_rowV (fun x => x.2.2) xs
      refine ⟨by simp only [List.length_map]; omega, loopC_eq (show _ = (runs0 h).map (fun x : Str × Rat × Rat => D.str x.1) by rw [List.map_map, List.map_map]; rfl) (loopC_on (fun x : Str × Rat × Rat => D.str x.1) (fun x => if (!decide (x.2.1 = 0)) = true then [D.str x.1] else []) rfl _ _ (by simp only [List.length_nil]; omega) (fun x hx => ?_) ?_)⟩
      · refine gv_name rfl (.head _) fun X' bX => ?_
        have hb := c13.blk bX rfl
        have v_name := hb.v (l := [("name", 13)]) (by decide +kernel) (.head _)
        have v_run := hb.v (l := [("run", 8)]) (by decide +kernel) (.head _)
        have ct' := hb.ct
        show GoT _ _ _ _
        repeat walk_at "fw"
        refine ⟨_, _, _, _, rfl, rfl, (hdA x hx).1, ?_⟩
        repeat walk_at "fw"
        refine ⟨_, (show eqOk (fr x.2.1) (.tup [.int 0, .int 1]) _ from eqOk_fr (n := 0)), ?_⟩
        refine ⟨fun z X'' bX => ?_, fun z => ?_⟩
        · have hb := c13.blk bX rfl
          have v_name := hb.v (l := [("name", 13)]) (by decide +kernel) (.head _)
          repeat walk_at "fw"
          exact ⟨rfl, rfl, by rw [if_pos z]⟩
        · exact ⟨rfl, rfl, by rw [if_neg (by rw [z]; decide)]⟩
      rw [List.nil_append, fm_filter]
      refine ⟨Lk.of rfl (rv1 _) ?_, _, rfl, nfs_map _ (fun _ => rfl) _, ?_⟩
      · simp only [lockR, List.set_cons_zero, List.set_cons_succ, List.all_cons, List.all_nil, nfA, nfO, nf, nf_hg, rr1, rr2, rv2, ri, A.frz, O.frz, Bool.and_true, Bool.true_and]
      dsimp only [lockR, unlockR, List.set_cons_zero, List.set_cons_succ]
      repeat walk_at "fw"
      have e1 : List.map (fun x : Str × Rat × Rat => D.str x.1) ((runs0 h).filter fun x => !decide (x.2.1 = 0)) = (((runs0 h).filter fun x => !decide (x.2.1 = 0)).map (·.1)).map D.str := by rw [List.map_map]; rfl
      have nok : ∀ s ∈ ((runs0 h).filter fun x => !decide (x.2.1 = 0)).map (·.1), NmOk s := fun s hs => by
        obtain ⟨y, hy, rfl⟩ := List.mem_map.mp hs
        exact nmok y (List.mem_filter.mp hy).1
      have e2 : (decide (((runs0 h).filter fun x => !decide (x.2.1 = 0)).map (·.1) = [])) = stillB h := by
        rw [Bool.eq_iff_iff]
        unfold stillB
        rw [List.all_map, List.all_eq_true, decide_eq_true_iff, List.map_eq_nil_iff, List.filter_eq_nil_iff]
        simp
      have e3 := stillB_even gd
      refine ⟨_, (show eqOk (.lst _) (.lst []) _ from e1 ▸ eqOk_nil nok), ?_⟩
      rw [e2]
      refine ⟨rfl, ?_⟩
      try dsimp only [List.set_cons_zero, List.set_cons_succ]
      subst hr10
      refine b_cut fun r11 hr11 => ?_
      repeat walk_at "fw"
      refine ⟨h, rfl, gd, ?_⟩
      walk_at "fwD"
      repeat walk_at "fw"
      refine ⟨_, _, rfl, ?_⟩
      walk_at "fwD"
      rw [decide_eq_true rfl]
      repeat walk_at "fw"
      refine ⟨h, rfl, gd.ok, gd.nw, ?_⟩
      walk_at "fwD"
      repeat walk_at "fw"
      rw [decide_eq_true e3]
      walk_at "fwN"
      subst hr11
      show GoB g _ _ _
      have p1 : (prs ((runs0 h).map row1)).length < 100000 := by simp [prs]; omega
      have p2 : (prs ((runs0 h).map row2)).length < 100000 := by simp [prs]; omega
      refine b_cut fun r12 hr12 => ?_
      repeat walk_at "fw"
      refine ⟨_, _, rfl, p1, ?_⟩
      try dsimp only [List.set_cons_zero, List.set_cons_succ]
      subst hr12
      refine b_cut fun r13 hr13 => ?_
      repeat walk_at "fw"
      refine ⟨_, _, rfl, p2, ?_⟩
      try dsimp only [List.set_cons_zero, List.set_cons_succ]
      subst hr13
      obtain ⟨cr1, cr2, _⟩ := cmp_rows (f := fun x => x.2.1) nmok
      obtain ⟨cr3, cr4, _⟩ := cmp_rows (f := fun x => x.2.2) nmok
      have m1 := eqOk_more (d := .int 1) cr1 (by omega) rfl (by simp [toP, PyData.depth])
      have m2 := eqOk_more (d := .int 1) cr3 (by omega) rfl (by simp [toP, PyData.depth])
      refine b_cut fun r14 hr14 => s_if ?_
      walk_at "fw"
      walk_at "fw"
      refine t_peek (i := 6) rfl ?_
      repeat walk_at "fw"
      refine ⟨h, rfl, gd, ?_⟩
      walk_at "fwD"
      repeat walk_at "fw"
      refine ⟨_, m1, ?_⟩
      walk_at "fw"
      walk_at "fw"
      refine t_peek (i := 7) rfl ?_
      repeat walk_at "fw"
      refine ⟨h, rfl, gd, ?_⟩
      walk_at "fwD"
      repeat walk_at "fw"
      refine ⟨_, m2, ?_⟩
      walk_at "fwN"
      subst hr14
      show GoB g _ _ _
      repeat walk_at "fw"
      exact ⟨⟨rfl, rfl⟩, gr⟩
    · intro ρ hi _
      refine ws_is hi ?_
      repeat walk_at "fw"
      refine ⟨sh, rfl, gs, ?_⟩
      walk_at "fwD"
      rw [stillB_even gs, (Hg.even_all sh).mpr evs]
      repeat walk_at "fw"
      exact ⟨_, rfl, rfl, rfl⟩
  · rintro _ ⟨rest, rfl, hr, hn⟩
    refine ws_rest hr hn ?_
    subst hr0
    repeat walk_at "fw"
    exact q
end
end KW

set_option Elab.async false
set_option linter.all false
set_option maxRecDepth 100000
set_option maxHeartbeats 4000000
namespace KW
open PySem L2 FW
theorem all_mk {l : PySem.W.OpenLaw} {w : World} {K : PySem.W.Frag} {h : Heap} {mg : Str → Option Value} {fa : Addr} (X : K.In h) (G : h.Ns mainGlobals mg) (hfa : mg "law" = some (.ref fa))
    {f0 : Addr} {od0 an0 : Option Addr} {sl0 : Array (Option Value)} {oc0 kV0 dc0 pm0 cd0 ct0 : Value}
    {f1 : Addr} {od1 an1 : Option Addr} {sl1 : Array (Option Value)} {oc1 kV1 dc1 pm1 cd1 ct1 : Value}
    {f2 : Addr} {od2 an2 : Option Addr} {sl2 : Array (Option Value)} {oc2 kV2 dc2 pm2 cd2 ct2 : Value}
    {f3 : Addr} {od3 an3 : Option Addr} {sl3 : Array (Option Value)} {oc3 kV3 dc3 pm3 cd3 ct3 : Value}
    {f4 : Addr} {od4 an4 : Option Addr} {sl4 : Array (Option Value)} {oc4 kV4 dc4 pm4 cd4 ct4 : Value}
    {f5 : Addr} {od5 an5 : Option Addr} {sl5 : Array (Option Value)} {oc5 kV5 dc5 pm5 cd5 ct5 : Value}
    {f6 : Addr} {od6 an6 : Option Addr} {sl6 : Array (Option Value)} {oc6 kV6 dc6 pm6 cd6 ct6 : Value}
    {f7 : Addr} {od7 an7 : Option Addr} {sl7 : Array (Option Value)} {oc7 kV7 dc7 pm7 cd7 ct7 : Value}
    {f8 : Addr} {od8 an8 : Option Addr} {sl8 : Array (Option Value)} {oc8 kV8 dc8 pm8 cd8 ct8 : Value}
    {f9 : Addr} {od9 an9 : Option Addr} {sl9 : Array (Option Value)} {oc9 kV9 dc9 pm9 cd9 ct9 : Value}
    {f10 : Addr} {od10 an10 : Option Addr} {sl10 : Array (Option Value)} {oc10 kV10 dc10 pm10 cd10 ct10 : Value}
    {f11 : Addr} {od11 an11 : Option Addr} {sl11 : Array (Option Value)} {oc11 kV11 dc11 pm11 cd11 ct11 : Value}
    {f12 : Addr} {od12 an12 : Option Addr} {sl12 : Array (Option Value)} {oc12 kV12 dc12 pm12 cd12 ct12 : Value}
    {f13 : Addr} {od13 an13 : Option Addr} {sl13 : Array (Option Value)} {oc13 kV13 dc13 pm13 cd13 ct13 : Value}
    {f14 : Addr} {od14 an14 : Option Addr} {sl14 : Array (Option Value)} {oc14 kV14 dc14 pm14 cd14 ct14 : Value}
    {f15 : Addr} {od15 an15 : Option Addr} {sl15 : Array (Option Value)} {oc15 kV15 dc15 pm15 cd15 ct15 : Value}
    {f16 : Addr} {od16 an16 : Option Addr} {sl16 : Array (Option Value)} {oc16 kV16 dc16 pm16 cd16 ct16 : Value}
    {f17 : Addr} {od17 an17 : Option Addr} {sl17 : Array (Option Value)} {oc17 kV17 dc17 pm17 cd17 ct17 : Value}
    {f18 : Addr} {od18 an18 : Option Addr} {sl18 : Array (Option Value)} {oc18 kV18 dc18 pm18 cd18 ct18 : Value}
    {f19 : Addr} {od19 an19 : Option Addr} {sl19 : Array (Option Value)} {oc19 kV19 dc19 pm19 cd19 ct19 : Value}
    {f20 : Addr} {od20 an20 : Option Addr} {sl20 : Array (Option Value)} {oc20 kV20 dc20 pm20 cd20 ct20 : Value}
    {f21 : Addr} {od21 an21 : Option Addr} {sl21 : Array (Option Value)} {oc21 kV21 dc21 pm21 cd21 ct21 : Value}
    {f22 : Addr} {od22 an22 : Option Addr} {sl22 : Array (Option Value)} {oc22 kV22 dc22 pm22 cd22 ct22 : Value}
    {f23 : Addr} {od23 an23 : Option Addr} {sl23 : Array (Option Value)} {oc23 kV23 dc23 pm23 cd23 ct23 : Value}
    {f24 : Addr} {od24 an24 : Option Addr} {sl24 : Array (Option Value)} {oc24 kV24 dc24 pm24 cd24 ct24 : Value}
    {f25 : Addr} {od25 an25 : Option Addr} {sl25 : Array (Option Value)} {oc25 kV25 dc25 pm25 cd25 ct25 : Value}
    {f26 : Addr} {od26 an26 : Option Addr} {sl26 : Array (Option Value)} {oc26 kV26 dc26 pm26 cd26 ct26 : Value}
    {f27 : Addr} {od27 an27 : Option Addr} {sl27 : Array (Option Value)} {oc27 kV27 dc27 pm27 cd27 ct27 : Value}
    {f28 : Addr} {od28 an28 : Option Addr} {sl28 : Array (Option Value)} {oc28 kV28 dc28 pm28 cd28 ct28 : Value}
    {f29 : Addr} {od29 an29 : Option Addr} {sl29 : Array (Option Value)} {oc29 kV29 dc29 pm29 cd29 ct29 : Value}
    {f30 : Addr} {od30 an30 : Option Addr} {sl30 : Array (Option Value)} {oc30 kV30 dc30 pm30 cd30 ct30 : Value}
    {f31 : Addr} {od31 an31 : Option Addr} {sl31 : Array (Option Value)} {oc31 kV31 dc31 pm31 cd31 ct31 : Value}
    {f32 : Addr} {od32 an32 : Option Addr} {sl32 : Array (Option Value)} {oc32 kV32 dc32 pm32 cd32 ct32 : Value}
    {f33 : Addr} {od33 an33 : Option Addr} {sl33 : Array (Option Value)} {oc33 kV33 dc33 pm33 cd33 ct33 : Value}
    {f34 : Addr} {od34 an34 : Option Addr} {sl34 : Array (Option Value)} {oc34 kV34 dc34 pm34 cd34 ct34 : Value}
    {f35 : Addr} {od35 an35 : Option Addr} {sl35 : Array (Option Value)} {oc35 kV35 dc35 pm35 cd35 ct35 : Value}
    {f36 : Addr} {od36 an36 : Option Addr} {sl36 : Array (Option Value)} {oc36 kV36 dc36 pm36 cd36 ct36 : Value}
    {f37 : Addr} {od37 an37 : Option Addr} {sl37 : Array (Option Value)} {oc37 kV37 dc37 pm37 cd37 ct37 : Value}
    {f38 : Addr} {od38 an38 : Option Addr} {sl38 : Array (Option Value)} {oc38 kV38 dc38 pm38 cd38 ct38 : Value}
    {f39 : Addr} {od39 an39 : Option Addr} {sl39 : Array (Option Value)} {oc39 kV39 dc39 pm39 cd39 ct39 : Value}
    (a0 : PySem.W.nsIn K mainGlobals "divisor" = some (some (.ref f0)))
    (l0 : K.lookup f0 = some ⟨oc0, od0, .func (PySem.W.fnOf "divisor" "divisor" (defArgs s_divisor) (defBody s_divisor) (defScope s_divisor) .none kV0 dc0 pm0 an0 cd0 ct0), sl0⟩)
    (c0 : PySem.W.codeIn K cd0 "divisor" = true) (k0 : PySem.W.keepIn K (.ref f0) = true)
    (a1 : PySem.W.nsIn K mainGlobals "fraction" = some (some (.ref f1)))
    (l1 : K.lookup f1 = some ⟨oc1, od1, .func (PySem.W.fnOf "fraction" "fraction" (defArgs s_fraction) (defBody s_fraction) (defScope s_fraction) .none kV1 dc1 pm1 an1 cd1 ct1), sl1⟩)
    (c1 : PySem.W.codeIn K cd1 "fraction" = true) (k1 : PySem.W.keepIn K (.ref f1) = true)
    (a2 : PySem.W.nsIn K mainGlobals "plus" = some (some (.ref f2)))
    (l2 : K.lookup f2 = some ⟨oc2, od2, .func (PySem.W.fnOf "plus" "plus" (defArgs s_plus) (defBody s_plus) (defScope s_plus) .none kV2 dc2 pm2 an2 cd2 ct2), sl2⟩)
    (c2 : PySem.W.codeIn K cd2 "plus" = true) (k2 : PySem.W.keepIn K (.ref f2) = true)
    (a3 : PySem.W.nsIn K mainGlobals "minus" = some (some (.ref f3)))
    (l3 : K.lookup f3 = some ⟨oc3, od3, .func (PySem.W.fnOf "minus" "minus" (defArgs s_minus) (defBody s_minus) (defScope s_minus) .none kV3 dc3 pm3 an3 cd3 ct3), sl3⟩)
    (c3 : PySem.W.codeIn K cd3 "minus" = true) (k3 : PySem.W.keepIn K (.ref f3) = true)
    (a4 : PySem.W.nsIn K mainGlobals "times" = some (some (.ref f4)))
    (l4 : K.lookup f4 = some ⟨oc4, od4, .func (PySem.W.fnOf "times" "times" (defArgs s_times) (defBody s_times) (defScope s_times) .none kV4 dc4 pm4 an4 cd4 ct4), sl4⟩)
    (c4 : PySem.W.codeIn K cd4 "times" = true) (k4 : PySem.W.keepIn K (.ref f4) = true)
    (a5 : PySem.W.nsIn K mainGlobals "shared" = some (some (.ref f5)))
    (l5 : K.lookup f5 = some ⟨oc5, od5, .func (PySem.W.fnOf "shared" "shared" (defArgs s_shared) (defBody s_shared) (defScope s_shared) .none kV5 dc5 pm5 an5 cd5 ct5), sl5⟩)
    (c5 : PySem.W.codeIn K cd5 "shared" = true) (k5 : PySem.W.keepIn K (.ref f5) = true)
    (a6 : PySem.W.nsIn K mainGlobals "is_whole" = some (some (.ref f6)))
    (l6 : K.lookup f6 = some ⟨oc6, od6, .func (PySem.W.fnOf "is_whole" "is_whole" (defArgs s_is_whole) (defBody s_is_whole) (defScope s_is_whole) .none kV6 dc6 pm6 an6 cd6 ct6), sl6⟩)
    (c6 : PySem.W.codeIn K cd6 "is_whole" = true) (k6 : PySem.W.keepIn K (.ref f6) = true)
    (a7 : PySem.W.nsIn K mainGlobals "is_name" = some (some (.ref f7)))
    (l7 : K.lookup f7 = some ⟨oc7, od7, .func (PySem.W.fnOf "is_name" "is_name" (defArgs s_is_name) (defBody s_is_name) (defScope s_is_name) .none kV7 dc7 pm7 an7 cd7 ct7), sl7⟩)
    (c7 : PySem.W.codeIn K cd7 "is_name" = true) (k7 : PySem.W.keepIn K (.ref f7) = true)
    (a8 : PySem.W.nsIn K mainGlobals "is_shaped" = some (some (.ref f8)))
    (l8 : K.lookup f8 = some ⟨oc8, od8, .func (PySem.W.fnOf "is_shaped" "is_shaped" (defArgs s_is_shaped) (defBody s_is_shaped) (defScope s_is_shaped) .none kV8 dc8 pm8 an8 cd8 ct8), sl8⟩)
    (c8 : PySem.W.codeIn K cd8 "is_shaped" = true) (k8 : PySem.W.keepIn K (.ref f8) = true)
    (a9 : PySem.W.nsIn K mainGlobals "things_of" = some (some (.ref f9)))
    (l9 : K.lookup f9 = some ⟨oc9, od9, .func (PySem.W.fnOf "things_of" "things_of" (defArgs s_things_of) (defBody s_things_of) (defScope s_things_of) .none kV9 dc9 pm9 an9 cd9 ct9), sl9⟩)
    (c9 : PySem.W.codeIn K cd9 "things_of" = true) (k9 : PySem.W.keepIn K (.ref f9) = true)
    (a10 : PySem.W.nsIn K mainGlobals "weights_of" = some (some (.ref f10)))
    (l10 : K.lookup f10 = some ⟨oc10, od10, .func (PySem.W.fnOf "weights_of" "weights_of" (defArgs s_weights_of) (defBody s_weights_of) (defScope s_weights_of) .none kV10 dc10 pm10 an10 cd10 ct10), sl10⟩)
    (c10 : PySem.W.codeIn K cd10 "weights_of" = true) (k10 : PySem.W.keepIn K (.ref f10) = true)
    (a11 : PySem.W.nsIn K mainGlobals "is_hanging" = some (some (.ref f11)))
    (l11 : K.lookup f11 = some ⟨oc11, od11, .func (PySem.W.fnOf "is_hanging" "is_hanging" (defArgs s_is_hanging) (defBody s_is_hanging) (defScope s_is_hanging) .none kV11 dc11 pm11 an11 cd11 ct11), sl11⟩)
    (c11 : PySem.W.codeIn K cd11 "is_hanging" = true) (k11 : PySem.W.keepIn K (.ref f11) = true)
    (a12 : PySem.W.nsIn K mainGlobals "need_hanging" = some (some (.ref f12)))
    (l12 : K.lookup f12 = some ⟨oc12, od12, .func (PySem.W.fnOf "need_hanging" "need_hanging" (defArgs s_need_hanging) (defBody s_need_hanging) (defScope s_need_hanging) .none kV12 dc12 pm12 an12 cd12 ct12), sl12⟩)
    (c12 : PySem.W.codeIn K cd12 "need_hanging" = true) (k12 : PySem.W.keepIn K (.ref f12) = true)
    (a13 : PySem.W.nsIn K mainGlobals "names_of" = some (some (.ref f13)))
    (l13 : K.lookup f13 = some ⟨oc13, od13, .func (PySem.W.fnOf "names_of" "names_of" (defArgs s_names_of) (defBody s_names_of) (defScope s_names_of) .none kV13 dc13 pm13 an13 cd13 ct13), sl13⟩)
    (c13 : PySem.W.codeIn K cd13 "names_of" = true) (k13 : PySem.W.keepIn K (.ref f13) = true)
    (a14 : PySem.W.nsIn K mainGlobals "both_felt" = some (some (.ref f14)))
    (l14 : K.lookup f14 = some ⟨oc14, od14, .func (PySem.W.fnOf "both_felt" "both_felt" (defArgs s_both_felt) (defBody s_both_felt) (defScope s_both_felt) .none kV14 dc14 pm14 an14 cd14 ct14), sl14⟩)
    (c14 : PySem.W.codeIn K cd14 "both_felt" = true) (k14 : PySem.W.keepIn K (.ref f14) = true)
    (a15 : PySem.W.nsIn K mainGlobals "felt_of" = some (some (.ref f15)))
    (l15 : K.lookup f15 = some ⟨oc15, od15, .func (PySem.W.fnOf "felt_of" "felt_of" (defArgs s_felt_of) (defBody s_felt_of) (defScope s_felt_of) .none kV15 dc15 pm15 an15 cd15 ct15), sl15⟩)
    (c15 : PySem.W.codeIn K cd15 "felt_of" = true) (k15 : PySem.W.keepIn K (.ref f15) = true)
    (a16 : PySem.W.nsIn K mainGlobals "runs" = some (some (.ref f16)))
    (l16 : K.lookup f16 = some ⟨oc16, od16, .func (PySem.W.fnOf "runs" "runs" (defArgs s_runs) (defBody s_runs) (defScope s_runs) .none kV16 dc16 pm16 an16 cd16 ct16), sl16⟩)
    (c16 : PySem.W.codeIn K cd16 "runs" = true) (k16 : PySem.W.keepIn K (.ref f16) = true)
    (a17 : PySem.W.nsIn K mainGlobals "all_runs" = some (some (.ref f17)))
    (l17 : K.lookup f17 = some ⟨oc17, od17, .func (PySem.W.fnOf "all_runs" "all_runs" (defArgs s_all_runs) (defBody s_all_runs) (defScope s_all_runs) .none kV17 dc17 pm17 an17 cd17 ct17), sl17⟩)
    (c17 : PySem.W.codeIn K cd17 "all_runs" = true) (k17 : PySem.W.keepIn K (.ref f17) = true)
    (a18 : PySem.W.nsIn K mainGlobals "speeds" = some (some (.ref f18)))
    (l18 : K.lookup f18 = some ⟨oc18, od18, .func (PySem.W.fnOf "speeds" "speeds" (defArgs s_speeds) (defBody s_speeds) (defScope s_speeds) .none kV18 dc18 pm18 an18 cd18 ct18), sl18⟩)
    (c18 : PySem.W.codeIn K cd18 "speeds" = true) (k18 : PySem.W.keepIn K (.ref f18) = true)
    (a19 : PySem.W.nsIn K mainGlobals "held" = some (some (.ref f19)))
    (l19 : K.lookup f19 = some ⟨oc19, od19, .func (PySem.W.fnOf "held" "held" (defArgs s_held) (defBody s_held) (defScope s_held) .none kV19 dc19 pm19 an19 cd19 ct19), sl19⟩)
    (c19 : PySem.W.codeIn K cd19 "held" = true) (k19 : PySem.W.keepIn K (.ref f19) = true)
    (a20 : PySem.W.nsIn K mainGlobals "is_still" = some (some (.ref f20)))
    (l20 : K.lookup f20 = some ⟨oc20, od20, .func (PySem.W.fnOf "is_still" "is_still" (defArgs s_is_still) (defBody s_is_still) (defScope s_is_still) .none kV20 dc20 pm20 an20 cd20 ct20), sl20⟩)
    (c20 : PySem.W.codeIn K cd20 "is_still" = true) (k20 : PySem.W.keepIn K (.ref f20) = true)
    (a21 : PySem.W.nsIn K mainGlobals "rests" = some (some (.ref f21)))
    (l21 : K.lookup f21 = some ⟨oc21, od21, .func (PySem.W.fnOf "rests" "rests" (defArgs s_rests) (defBody s_rests) (defScope s_rests) .none kV21 dc21 pm21 an21 cd21 ct21), sl21⟩)
    (c21 : PySem.W.codeIn K cd21 "rests" = true) (k21 : PySem.W.keepIn K (.ref f21) = true)
    (a22 : PySem.W.nsIn K mainGlobals "_law_well" = some (some (.ref f22)))
    (l22 : K.lookup f22 = some ⟨oc22, od22, .func (PySem.W.fnOf "_law_well" "_law_well" (defArgs s__law_well) (defBody s__law_well) (defScope s__law_well) .none kV22 dc22 pm22 an22 cd22 ct22), sl22⟩)
    (c22 : PySem.W.codeIn K cd22 "_law_well" = true) (k22 : PySem.W.keepIn K (.ref f22) = true)
    (a23 : PySem.W.nsIn K mainGlobals "_law_take" = some (some (.ref f23)))
    (l23 : K.lookup f23 = some ⟨oc23, od23, .func (PySem.W.fnOf "_law_take" "_law_take" (defArgs s__law_take) (defBody s__law_take) (defScope s__law_take) .none kV23 dc23 pm23 an23 cd23 ct23), sl23⟩)
    (c23 : PySem.W.codeIn K cd23 "_law_take" = true) (k23 : PySem.W.keepIn K (.ref f23) = true)
    (a24 : PySem.W.nsIn K mainGlobals "_law_says" = some (some (.ref f24)))
    (l24 : K.lookup f24 = some ⟨oc24, od24, .func (PySem.W.fnOf "_law_says" "_law_says" (defArgs s__law_says) (defBody s__law_says) (defScope s__law_says) .none kV24 dc24 pm24 an24 cd24 ct24), sl24⟩)
    (c24 : PySem.W.codeIn K cd24 "_law_says" = true) (k24 : PySem.W.keepIn K (.ref f24) = true)
    (a25 : PySem.W.nsIn K mainGlobals "_law_frac" = some (some (.ref f25)))
    (l25 : K.lookup f25 = some ⟨oc25, od25, .func (PySem.W.fnOf "_law_frac" "_law_frac" (defArgs s__law_frac) (defBody s__law_frac) (defScope s__law_frac) .none kV25 dc25 pm25 an25 cd25 ct25), sl25⟩)
    (c25 : PySem.W.codeIn K cd25 "_law_frac" = true) (k25 : PySem.W.keepIn K (.ref f25) = true)
    (a26 : PySem.W.nsIn K mainGlobals "_law_plus" = some (some (.ref f26)))
    (l26 : K.lookup f26 = some ⟨oc26, od26, .func (PySem.W.fnOf "_law_plus" "_law_plus" (defArgs s__law_plus) (defBody s__law_plus) (defScope s__law_plus) .none kV26 dc26 pm26 an26 cd26 ct26), sl26⟩)
    (c26 : PySem.W.codeIn K cd26 "_law_plus" = true) (k26 : PySem.W.keepIn K (.ref f26) = true)
    (a27 : PySem.W.nsIn K mainGlobals "_law_minus" = some (some (.ref f27)))
    (l27 : K.lookup f27 = some ⟨oc27, od27, .func (PySem.W.fnOf "_law_minus" "_law_minus" (defArgs s__law_minus) (defBody s__law_minus) (defScope s__law_minus) .none kV27 dc27 pm27 an27 cd27 ct27), sl27⟩)
    (c27 : PySem.W.codeIn K cd27 "_law_minus" = true) (k27 : PySem.W.keepIn K (.ref f27) = true)
    (a28 : PySem.W.nsIn K mainGlobals "_law_times" = some (some (.ref f28)))
    (l28 : K.lookup f28 = some ⟨oc28, od28, .func (PySem.W.fnOf "_law_times" "_law_times" (defArgs s__law_times) (defBody s__law_times) (defScope s__law_times) .none kV28 dc28 pm28 an28 cd28 ct28), sl28⟩)
    (c28 : PySem.W.codeIn K cd28 "_law_times" = true) (k28 : PySem.W.keepIn K (.ref f28) = true)
    (a29 : PySem.W.nsIn K mainGlobals "_law_heavy" = some (some (.ref f29)))
    (l29 : K.lookup f29 = some ⟨oc29, od29, .func (PySem.W.fnOf "_law_heavy" "_law_heavy" (defArgs s__law_heavy) (defBody s__law_heavy) (defScope s__law_heavy) .none kV29 dc29 pm29 an29 cd29 ct29), sl29⟩)
    (c29 : PySem.W.codeIn K cd29 "_law_heavy" = true) (k29 : PySem.W.keepIn K (.ref f29) = true)
    (a30 : PySem.W.nsIn K mainGlobals "_law_hung" = some (some (.ref f30)))
    (l30 : K.lookup f30 = some ⟨oc30, od30, .func (PySem.W.fnOf "_law_hung" "_law_hung" (defArgs s__law_hung) (defBody s__law_hung) (defScope s__law_hung) .none kV30 dc30 pm30 an30 cd30 ct30), sl30⟩)
    (c30 : PySem.W.codeIn K cd30 "_law_hung" = true) (k30 : PySem.W.keepIn K (.ref f30) = true)
    (a31 : PySem.W.nsIn K mainGlobals "_law_hanging" = some (some (.ref f31)))
    (l31 : K.lookup f31 = some ⟨oc31, od31, .func (PySem.W.fnOf "_law_hanging" "_law_hanging" (defArgs s__law_hanging) (defBody s__law_hanging) (defScope s__law_hanging) .none kV31 dc31 pm31 an31 cd31 ct31), sl31⟩)
    (c31 : PySem.W.codeIn K cd31 "_law_hanging" = true) (k31 : PySem.W.keepIn K (.ref f31) = true)
    (a32 : PySem.W.nsIn K mainGlobals "_law_things" = some (some (.ref f32)))
    (l32 : K.lookup f32 = some ⟨oc32, od32, .func (PySem.W.fnOf "_law_things" "_law_things" (defArgs s__law_things) (defBody s__law_things) (defScope s__law_things) .none kV32 dc32 pm32 an32 cd32 ct32), sl32⟩)
    (c32 : PySem.W.codeIn K cd32 "_law_things" = true) (k32 : PySem.W.keepIn K (.ref f32) = true)
    (a33 : PySem.W.nsIn K mainGlobals "_law_by" = some (some (.ref f33)))
    (l33 : K.lookup f33 = some ⟨oc33, od33, .func (PySem.W.fnOf "_law_by" "_law_by" (defArgs s__law_by) (defBody s__law_by) (defScope s__law_by) .none kV33 dc33 pm33 an33 cd33 ct33), sl33⟩)
    (c33 : PySem.W.codeIn K cd33 "_law_by" = true) (k33 : PySem.W.keepIn K (.ref f33) = true)
    (a34 : PySem.W.nsIn K mainGlobals "_law_felt" = some (some (.ref f34)))
    (l34 : K.lookup f34 = some ⟨oc34, od34, .func (PySem.W.fnOf "_law_felt" "_law_felt" (defArgs s__law_felt) (defBody s__law_felt) (defScope s__law_felt) .none kV34 dc34 pm34 an34 cd34 ct34), sl34⟩)
    (c34 : PySem.W.codeIn K cd34 "_law_felt" = true) (k34 : PySem.W.keepIn K (.ref f34) = true)
    (a35 : PySem.W.nsIn K mainGlobals "_law_speeds" = some (some (.ref f35)))
    (l35 : K.lookup f35 = some ⟨oc35, od35, .func (PySem.W.fnOf "_law_speeds" "_law_speeds" (defArgs s__law_speeds) (defBody s__law_speeds) (defScope s__law_speeds) .none kV35 dc35 pm35 an35 cd35 ct35), sl35⟩)
    (c35 : PySem.W.codeIn K cd35 "_law_speeds" = true) (k35 : PySem.W.keepIn K (.ref f35) = true)
    (a36 : PySem.W.nsIn K mainGlobals "_law_agrees" = some (some (.ref f36)))
    (l36 : K.lookup f36 = some ⟨oc36, od36, .func (PySem.W.fnOf "_law_agrees" "_law_agrees" (defArgs s__law_agrees) (defBody s__law_agrees) (defScope s__law_agrees) .none kV36 dc36 pm36 an36 cd36 ct36), sl36⟩)
    (c36 : PySem.W.codeIn K cd36 "_law_agrees" = true) (k36 : PySem.W.keepIn K (.ref f36) = true)
    (a37 : PySem.W.nsIn K mainGlobals "_law_even" = some (some (.ref f37)))
    (l37 : K.lookup f37 = some ⟨oc37, od37, .func (PySem.W.fnOf "_law_even" "_law_even" (defArgs s__law_even) (defBody s__law_even) (defScope s__law_even) .none kV37 dc37 pm37 an37 cd37 ct37), sl37⟩)
    (c37 : PySem.W.codeIn K cd37 "_law_even" = true) (k37 : PySem.W.keepIn K (.ref f37) = true)
    (a38 : PySem.W.nsIn K mainGlobals "_law_still" = some (some (.ref f38)))
    (l38 : K.lookup f38 = some ⟨oc38, od38, .func (PySem.W.fnOf "_law_still" "_law_still" (defArgs s__law_still) (defBody s__law_still) (defScope s__law_still) .none kV38 dc38 pm38 an38 cd38 ct38), sl38⟩)
    (c38 : PySem.W.codeIn K cd38 "_law_still" = true) (k38 : PySem.W.keepIn K (.ref f38) = true)
    (a39 : PySem.W.nsIn K mainGlobals "law" = some (some (.ref f39)))
    (l39 : K.lookup f39 = some ⟨oc39, od39, .func (PySem.W.fnOf "law" "law" (defArgs s_law) (defBody s_law) (defScope s_law) .none kV39 dc39 pm39 an39 cd39 ct39), sl39⟩)
    (c39 : PySem.W.codeIn K cd39 "law" = true) (k39 : PySem.W.keepIn K (.ref f39) = true)
    {r_NOUGHT : Addr} {od_NOUGHT : Option Addr} {t_NOUGHT u_NOUGHT : Tok} {z_NOUGHT : Nat} {sl_NOUGHT : Array (Option Value)} (n_NOUGHT : PySem.W.nsIn K mainGlobals "NOUGHT" = some (some (.ref r_NOUGHT))) (m_NOUGHT : K.lookup r_NOUGHT = some ⟨.type "tuple", od_NOUGHT, .seq #[.int 0 t_NOUGHT, .int 1 u_NOUGHT] z_NOUGHT, sl_NOUGHT⟩)
    {r_ONE : Addr} {od_ONE : Option Addr} {t_ONE u_ONE : Tok} {z_ONE : Nat} {sl_ONE : Array (Option Value)} (n_ONE : PySem.W.nsIn K mainGlobals "ONE" = some (some (.ref r_ONE))) (m_ONE : K.lookup r_ONE = some ⟨.type "tuple", od_ONE, .seq #[.int 1 t_ONE, .int 1 u_ONE] z_ONE, sl_ONE⟩)
    {t_LETTERS : Tok} (n_LETTERS : PySem.W.nsIn K mainGlobals "LETTERS" = some (some (.str "abcdefghijklmnopqrstuvwxyz" t_LETTERS)))
    {t_MOST : Tok} (n_MOST : PySem.W.nsIn K mainGlobals "MOST" = some (some (.int 1000 t_MOST)))
    {t_MOST_WEIGHTS : Tok} (n_MOST_WEIGHTS : PySem.W.nsIn K mainGlobals "MOST_WEIGHTS" = some (some (.int 8 t_MOST_WEIGHTS)))
    (b_abs : PySem.W.nsIn K mainGlobals "abs" = some none)
    (b_bool : PySem.W.nsIn K mainGlobals "bool" = some none)
    (b_int : PySem.W.nsIn K mainGlobals "int" = some none)
    (b_isinstance : PySem.W.nsIn K mainGlobals "isinstance" = some none)
    (b_all : PySem.W.nsIn K mainGlobals "all" = some none)
    (b_len : PySem.W.nsIn K mainGlobals "len" = some none)
    (b_str : PySem.W.nsIn K mainGlobals "str" = some none)
    (b_tuple : PySem.W.nsIn K mainGlobals "tuple" = some none)
    (b_set : PySem.W.nsIn K mainGlobals "set" = some none)
    (b_sorted : PySem.W.nsIn K mainGlobals "sorted" = some none)
    (b_dict : PySem.W.nsIn K mainGlobals "dict" = some none)
    (b_max : PySem.W.nsIn K mainGlobals "max" = some none)
    (b_min : PySem.W.nsIn K mainGlobals "min" = some none)
    (b_range : PySem.W.nsIn K mainGlobals "range" = some none)
    : Txt K mg ∧ ∃ fd : FuncData, L2.Fun K "law" "law" s_law fa fd ∧ ∀ (s : Shared) (v : Value), BindsTo s fd ⟨[v], []⟩ [("script", v)] := by
  have e := hfa.symm.trans (PySem.W.mg_of X G a39)
  cases e
  have F0 := fun_mk (st := s_divisor) l0 c0 k0
  have B0 := F0.binds (ps := P_divisor) fun _ _ _ _ _ _ us hl => match us, hl with | [_, _], _ => rfl
  have F1 := fun_mk (st := s_fraction) l1 c1 k1
  have B1 := F1.binds (ps := P_fraction) fun _ _ _ _ _ _ us hl => match us, hl with | [_, _], _ => rfl
  have F2 := fun_mk (st := s_plus) l2 c2 k2
  have B2 := F2.binds (ps := P_plus) fun _ _ _ _ _ _ us hl => match us, hl with | [_, _], _ => rfl
  have F3 := fun_mk (st := s_minus) l3 c3 k3
  have B3 := F3.binds (ps := P_minus) fun _ _ _ _ _ _ us hl => match us, hl with | [_, _], _ => rfl
  have F4 := fun_mk (st := s_times) l4 c4 k4
  have B4 := F4.binds (ps := P_times) fun _ _ _ _ _ _ us hl => match us, hl with | [_, _], _ => rfl
  have F5 := fun_mk (st := s_shared) l5 c5 k5
  have B5 := F5.binds (ps := P_shared) fun _ _ _ _ _ _ us hl => match us, hl with | [_, _], _ => rfl
  have F6 := fun_mk (st := s_is_whole) l6 c6 k6
  have B6 := F6.binds (ps := P_is_whole) fun _ _ _ _ _ _ us hl => match us, hl with | [_, _, _], _ => rfl
  have F7 := fun_mk (st := s_is_name) l7 c7 k7
  have B7 := F7.binds (ps := P_is_name) fun _ _ _ _ _ _ us hl => match us, hl with | [_], _ => rfl
  have F8 := fun_mk (st := s_is_shaped) l8 c8 k8
  have B8 := F8.binds (ps := P_is_shaped) fun _ _ _ _ _ _ us hl => match us, hl with | [_, _], _ => rfl
  have F9 := fun_mk (st := s_things_of) l9 c9 k9
  have B9 := F9.binds (ps := P_things_of) fun _ _ _ _ _ _ us hl => match us, hl with | [_], _ => rfl
  have F10 := fun_mk (st := s_weights_of) l10 c10 k10
  have B10 := F10.binds (ps := P_weights_of) fun _ _ _ _ _ _ us hl => match us, hl with | [_], _ => rfl
  have F11 := fun_mk (st := s_is_hanging) l11 c11 k11
  have B11 := F11.binds (ps := P_is_hanging) fun _ _ _ _ _ _ us hl => match us, hl with | [_], _ => rfl
  have F12 := fun_mk (st := s_need_hanging) l12 c12 k12
  have B12 := F12.binds (ps := P_need_hanging) fun _ _ _ _ _ _ us hl => match us, hl with | [_], _ => rfl
  have F13 := fun_mk (st := s_names_of) l13 c13 k13
  have B13 := F13.binds (ps := P_names_of) fun _ _ _ _ _ _ us hl => match us, hl with | [_], _ => rfl
  have F14 := fun_mk (st := s_both_felt) l14 c14 k14
  have B14 := F14.binds (ps := P_both_felt) fun _ _ _ _ _ _ us hl => match us, hl with | [_, _, _], _ => rfl
  have F15 := fun_mk (st := s_felt_of) l15 c15 k15
  have B15 := F15.binds (ps := P_felt_of) fun _ _ _ _ _ _ us hl => match us, hl with | [_, _], _ => rfl
  have F16 := fun_mk (st := s_runs) l16 c16 k16
  have B16 := F16.binds (ps := P_runs) fun _ _ _ _ _ _ us hl => match us, hl with | [_, _, _, _], _ => rfl
  have F17 := fun_mk (st := s_all_runs) l17 c17 k17
  have B17 := F17.binds (ps := P_all_runs) fun _ _ _ _ _ _ us hl => match us, hl with | [_, _], _ => rfl
  have F18 := fun_mk (st := s_speeds) l18 c18 k18
  have B18 := F18.binds (ps := P_speeds) fun _ _ _ _ _ _ us hl => match us, hl with | [_], _ => rfl
  have F19 := fun_mk (st := s_held) l19 c19 k19
  have B19 := F19.binds (ps := P_held) fun _ _ _ _ _ _ us hl => match us, hl with | [_], _ => rfl
  have F20 := fun_mk (st := s_is_still) l20 c20 k20
  have B20 := F20.binds (ps := P_is_still) fun _ _ _ _ _ _ us hl => match us, hl with | [_], _ => rfl
  have F21 := fun_mk (st := s_rests) l21 c21 k21
  have B21 := F21.binds (ps := P_rests) fun _ _ _ _ _ _ us hl => match us, hl with | [_], _ => rfl
  have F22 := fun_mk (st := s__law_well) l22 c22 k22
  have B22 := F22.binds (ps := P__law_well) fun _ _ _ _ _ _ us hl => match us, hl with | [_, _], _ => rfl
  have F23 := fun_mk (st := s__law_take) l23 c23 k23
  have B23 := F23.binds (ps := P__law_take) fun _ _ _ _ _ _ us hl => match us, hl with | [_, _], _ => rfl
  have F24 := fun_mk (st := s__law_says) l24 c24 k24
  have B24 := F24.binds (ps := P__law_says) fun _ _ _ _ _ _ us hl => match us, hl with | [_, _], _ => rfl
  have F25 := fun_mk (st := s__law_frac) l25 c25 k25
  have B25 := F25.binds (ps := P__law_frac) fun _ _ _ _ _ _ us hl => match us, hl with | [_, _], _ => rfl
  have F26 := fun_mk (st := s__law_plus) l26 c26 k26
  have B26 := F26.binds (ps := P__law_plus) fun _ _ _ _ _ _ us hl => match us, hl with | [_, _], _ => rfl
  have F27 := fun_mk (st := s__law_minus) l27 c27 k27
  have B27 := F27.binds (ps := P__law_minus) fun _ _ _ _ _ _ us hl => match us, hl with | [_, _], _ => rfl
  have F28 := fun_mk (st := s__law_times) l28 c28 k28
  have B28 := F28.binds (ps := P__law_times) fun _ _ _ _ _ _ us hl => match us, hl with | [_, _], _ => rfl
  have F29 := fun_mk (st := s__law_heavy) l29 c29 k29
  have B29 := F29.binds (ps := P__law_heavy) fun _ _ _ _ _ _ us hl => match us, hl with | [_], _ => rfl
  have F30 := fun_mk (st := s__law_hung) l30 c30 k30
  have B30 := F30.binds (ps := P__law_hung) fun _ _ _ _ _ _ us hl => match us, hl with | [_, _, _], _ => rfl
  have F31 := fun_mk (st := s__law_hanging) l31 c31 k31
  have B31 := F31.binds (ps := P__law_hanging) fun _ _ _ _ _ _ us hl => match us, hl with | [_, _], _ => rfl
  have F32 := fun_mk (st := s__law_things) l32 c32 k32
  have B32 := F32.binds (ps := P__law_things) fun _ _ _ _ _ _ us hl => match us, hl with | [_], _ => rfl
  have F33 := fun_mk (st := s__law_by) l33 c33 k33
  have B33 := F33.binds (ps := P__law_by) fun _ _ _ _ _ _ us hl => match us, hl with | [_, _], _ => rfl
  have F34 := fun_mk (st := s__law_felt) l34 c34 k34
  have B34 := F34.binds (ps := P__law_felt) fun _ _ _ _ _ _ us hl => match us, hl with | [_, _], _ => rfl
  have F35 := fun_mk (st := s__law_speeds) l35 c35 k35
  have B35 := F35.binds (ps := P__law_speeds) fun _ _ _ _ _ _ us hl => match us, hl with | [_, _, _], _ => rfl
  have F36 := fun_mk (st := s__law_agrees) l36 c36 k36
  have B36 := F36.binds (ps := P__law_agrees) fun _ _ _ _ _ _ us hl => match us, hl with | [_, _, _], _ => rfl
  have F37 := fun_mk (st := s__law_even) l37 c37 k37
  have B37 := F37.binds (ps := P__law_even) fun _ _ _ _ _ _ us hl => match us, hl with | [_], _ => rfl
  have F38 := fun_mk (st := s__law_still) l38 c38 k38
  have B38 := F38.binds (ps := P__law_still) fun _ _ _ _ _ _ us hl => match us, hl with | [_, _, _, _], _ => rfl
  have F39 := fun_mk (st := s_law) l39 c39 k39
  have B39 := F39.binds (ps := P_law) fun _ _ _ _ _ _ us hl => match us, hl with | [_], _ => rfl
  refine ⟨{ d_divisor := ⟨_, _, F0, PySem.W.mg_of X G a0, B0⟩, d_fraction := ⟨_, _, F1, PySem.W.mg_of X G a1, B1⟩, d_plus := ⟨_, _, F2, PySem.W.mg_of X G a2, B2⟩, d_minus := ⟨_, _, F3, PySem.W.mg_of X G a3, B3⟩, d_times := ⟨_, _, F4, PySem.W.mg_of X G a4, B4⟩, d_shared := ⟨_, _, F5, PySem.W.mg_of X G a5, B5⟩, d_is_whole := ⟨_, _, F6, PySem.W.mg_of X G a6, B6⟩, d_is_name := ⟨_, _, F7, PySem.W.mg_of X G a7, B7⟩, d_is_shaped := ⟨_, _, F8, PySem.W.mg_of X G a8, B8⟩, d_things_of := ⟨_, _, F9, PySem.W.mg_of X G a9, B9⟩, d_weights_of := ⟨_, _, F10, PySem.W.mg_of X G a10, B10⟩, d_is_hanging := ⟨_, _, F11, PySem.W.mg_of X G a11, B11⟩, d_need_hanging := ⟨_, _, F12, PySem.W.mg_of X G a12, B12⟩, d_names_of := ⟨_, _, F13, PySem.W.mg_of X G a13, B13⟩, d_both_felt := ⟨_, _, F14, PySem.W.mg_of X G a14, B14⟩, d_felt_of := ⟨_, _, F15, PySem.W.mg_of X G a15, B15⟩, d_runs := ⟨_, _, F16, PySem.W.mg_of X G a16, B16⟩, d_all_runs := ⟨_, _, F17, PySem.W.mg_of X G a17, B17⟩, d_speeds := ⟨_, _, F18, PySem.W.mg_of X G a18, B18⟩, d_held := ⟨_, _, F19, PySem.W.mg_of X G a19, B19⟩, d_is_still := ⟨_, _, F20, PySem.W.mg_of X G a20, B20⟩, d_rests := ⟨_, _, F21, PySem.W.mg_of X G a21, B21⟩, d__law_well := ⟨_, _, F22, PySem.W.mg_of X G a22, B22⟩, d__law_take := ⟨_, _, F23, PySem.W.mg_of X G a23, B23⟩, d__law_says := ⟨_, _, F24, PySem.W.mg_of X G a24, B24⟩, d__law_frac := ⟨_, _, F25, PySem.W.mg_of X G a25, B25⟩, d__law_plus := ⟨_, _, F26, PySem.W.mg_of X G a26, B26⟩, d__law_minus := ⟨_, _, F27, PySem.W.mg_of X G a27, B27⟩, d__law_times := ⟨_, _, F28, PySem.W.mg_of X G a28, B28⟩, d__law_heavy := ⟨_, _, F29, PySem.W.mg_of X G a29, B29⟩, d__law_hung := ⟨_, _, F30, PySem.W.mg_of X G a30, B30⟩, d__law_hanging := ⟨_, _, F31, PySem.W.mg_of X G a31, B31⟩, d__law_things := ⟨_, _, F32, PySem.W.mg_of X G a32, B32⟩, d__law_by := ⟨_, _, F33, PySem.W.mg_of X G a33, B33⟩, d__law_felt := ⟨_, _, F34, PySem.W.mg_of X G a34, B34⟩, d__law_speeds := ⟨_, _, F35, PySem.W.mg_of X G a35, B35⟩, d__law_agrees := ⟨_, _, F36, PySem.W.mg_of X G a36, B36⟩, d__law_even := ⟨_, _, F37, PySem.W.mg_of X G a37, B37⟩, d__law_still := ⟨_, _, F38, PySem.W.mg_of X G a38, B38⟩, d_law := ⟨_, _, F39, PySem.W.mg_of X G a39, B39⟩, n_NOUGHT := top_tup2 (PySem.W.mg_of X G n_NOUGHT) m_NOUGHT, n_ONE := top_tup2 (PySem.W.mg_of X G n_ONE) m_ONE, n_LETTERS := top_str (PySem.W.mg_of X G n_LETTERS), n_MOST := top_int (PySem.W.mg_of X G n_MOST), n_MOST_WEIGHTS := top_int (PySem.W.mg_of X G n_MOST_WEIGHTS), b_abs := PySem.W.mg_none_of X G b_abs, b_bool := PySem.W.mg_none_of X G b_bool, b_int := PySem.W.mg_none_of X G b_int, b_isinstance := PySem.W.mg_none_of X G b_isinstance, b_all := PySem.W.mg_none_of X G b_all, b_len := PySem.W.mg_none_of X G b_len, b_str := PySem.W.mg_none_of X G b_str, b_tuple := PySem.W.mg_none_of X G b_tuple, b_set := PySem.W.mg_none_of X G b_set, b_sorted := PySem.W.mg_none_of X G b_sorted, b_dict := PySem.W.mg_none_of X G b_dict, b_max := PySem.W.mg_none_of X G b_max, b_min := PySem.W.mg_none_of X G b_min, b_range := PySem.W.mg_none_of X G b_range }, _, F39, fun s v => .of_eq rfl⟩
theorem walk {l : PySem.W.OpenLaw} {q : Program} {loose : List Str} {XP : (Str → Option Value) → Heap → Prop} {YP : World → Heap → Prop} {d : DefRec} {K : Params → PySem.W.Frag} (hn : l.most = some 63) (hdf : d.params.defaults = [])
    (hY : ∀ (w : World) (h : Heap), YP w h → (K w.params).In h)
    (F : ∀ (w : World) (mg : Str → Option Value) (fa : Addr) (h : Heap), (K w.params).In h → h.Ns mainGlobals mg → mg d.name = some (.ref fa) →
      Txt (K w.params) mg ∧ ∃ fd : FuncData, L2.Fun (K w.params) "law" "law" s_law fa fd ∧ ∀ (s : Shared) (u : Value), BindsTo s fd ⟨[u], []⟩ [("script", u)]) :
    PySem.W.WalkO q loose XP YP l.row.toRowW d [] (fun f vs => PySem.call f vs) :=
  L2.walk_of (n := 63) (k := 40) (x := "script") (CX := fun _ => CX0) (sp := fun w => SpOf (K w.params) spLaw) hn (by decide) hdf ⟨rfl, by decide, by decide⟩ hY (fun w mg fa h X G hm => by
    obtain ⟨T, fd, FL, hb⟩ := F w mg fa h X G hm
    exact ⟨fd, hb, fun base _ _ => ok_law T FL⟩) (fun w H a ns hl _ hS => sp_top hS ⟨ns, rfl, hl, rfl⟩) fun _ _ _ _ _ z => z
end KW
open PySem PySem.W PyProof.Rows
set_option maxRecDepth 100000 in
set_option maxHeartbeats 0 in
theorem PySem.Challenge.cw_feltweight_k11_whole_how_all_run_holds : PySem.Challenge.rw_feltweight_k11_whole_how_all_run.Holds := by
  w_on; o_law; k_head; (case hw => w_witness2)
  k_fill
  refine KW.walk (l := PySem.Challenge.rw_feltweight_k11_whole_how_all_run) rfl rfl (fun w h Y => PySem.W.kIn_of Y) ?F
  case F =>
    intro w mg fa h KX G hmg
    refine' KW.all_mk (l := PySem.Challenge.rw_feltweight_k11_whole_how_all_run) (w := w) KX G hmg ?a0 ?l0 ?c0 ?k0 ?a1 ?l1 ?c1 ?k1 ?a2 ?l2 ?c2 ?k2 ?a3 ?l3 ?c3 ?k3 ?a4 ?l4 ?c4 ?k4 ?a5 ?l5 ?c5 ?k5 ?a6 ?l6 ?c6 ?k6 ?a7 ?l7 ?c7 ?k7 ?a8 ?l8 ?c8 ?k8 ?a9 ?l9 ?c9 ?k9 ?a10 ?l10 ?c10 ?k10 ?a11 ?l11 ?c11 ?k11 ?a12 ?l12 ?c12 ?k12 ?a13 ?l13 ?c13 ?k13 ?a14 ?l14 ?c14 ?k14 ?a15 ?l15 ?c15 ?k15 ?a16 ?l16 ?c16 ?k16 ?a17 ?l17 ?c17 ?k17 ?a18 ?l18 ?c18 ?k18 ?a19 ?l19 ?c19 ?k19 ?a20 ?l20 ?c20 ?k20 ?a21 ?l21 ?c21 ?k21 ?a22 ?l22 ?c22 ?k22 ?a23 ?l23 ?c23 ?k23 ?a24 ?l24 ?c24 ?k24 ?a25 ?l25 ?c25 ?k25 ?a26 ?l26 ?c26 ?k26 ?a27 ?l27 ?c27 ?k27 ?a28 ?l28 ?c28 ?k28 ?a29 ?l29 ?c29 ?k29 ?a30 ?l30 ?c30 ?k30 ?a31 ?l31 ?c31 ?k31 ?a32 ?l32 ?c32 ?k32 ?a33 ?l33 ?c33 ?k33 ?a34 ?l34 ?c34 ?k34 ?a35 ?l35 ?c35 ?k35 ?a36 ?l36 ?c36 ?k36 ?a37 ?l37 ?c37 ?k37 ?a38 ?l38 ?c38 ?k38 ?a39 ?l39 ?c39 ?k39 ?n_NOUGHT ?m_NOUGHT ?n_ONE ?m_ONE ?n_LETTERS ?n_MOST ?n_MOST_WEIGHTS ?b_abs ?b_bool ?b_int ?b_isinstance ?b_all ?b_len ?b_str ?b_tuple ?b_set ?b_sorted ?b_dict ?b_max ?b_min ?b_range
    (case a0 => k_is)
    (case l0 => k_is)
    (case c0 => k_is)
    (case k0 => k_is)
    (case a1 => k_is)
    (case l1 => k_is)
    (case c1 => k_is)
    (case k1 => k_is)
    (case a2 => k_is)
    (case l2 => k_is)
    (case c2 => k_is)
    (case k2 => k_is)
    (case a3 => k_is)
    (case l3 => k_is)
    (case c3 => k_is)
    (case k3 => k_is)
    (case a4 => k_is)
    (case l4 => k_is)
    (case c4 => k_is)
    (case k4 => k_is)
    (case a5 => k_is)
    (case l5 => k_is)
    (case c5 => k_is)
    (case k5 => k_is)
    (case a6 => k_is)
    (case l6 => k_is)
    (case c6 => k_is)
    (case k6 => k_is)
    (case a7 => k_is)
    (case l7 => k_is)
    (case c7 => k_is)
    (case k7 => k_is)
    (case a8 => k_is)
    (case l8 => k_is)
    (case c8 => k_is)
    (case k8 => k_is)
    (case a9 => k_is)
    (case l9 => k_is)
    (case c9 => k_is)
    (case k9 => k_is)
    (case a10 => k_is)
    (case l10 => k_is)
    (case c10 => k_is)
    (case k10 => k_is)
    (case a11 => k_is)
    (case l11 => k_is)
    (case c11 => k_is)
    (case k11 => k_is)
    (case a12 => k_is)
    (case l12 => k_is)
    (case c12 => k_is)
    (case k12 => k_is)
    (case a13 => k_is)
    (case l13 => k_is)
    (case c13 => k_is)
    (case k13 => k_is)
    (case a14 => k_is)
    (case l14 => k_is)
    (case c14 => k_is)
    (case k14 => k_is)
    (case a15 => k_is)
    (case l15 => k_is)
    (case c15 => k_is)
    (case k15 => k_is)
    (case a16 => k_is)
    (case l16 => k_is)
    (case c16 => k_is)
    (case k16 => k_is)
    (case a17 => k_is)
    (case l17 => k_is)
    (case c17 => k_is)
    (case k17 => k_is)
    (case a18 => k_is)
    (case l18 => k_is)
    (case c18 => k_is)
    (case k18 => k_is)
    (case a19 => k_is)
    (case l19 => k_is)
    (case c19 => k_is)
    (case k19 => k_is)
    (case a20 => k_is)
    (case l20 => k_is)
    (case c20 => k_is)
    (case k20 => k_is)
    (case a21 => k_is)
    (case l21 => k_is)
    (case c21 => k_is)
    (case k21 => k_is)
    (case a22 => k_is)
    (case l22 => k_is)
    (case c22 => k_is)
    (case k22 => k_is)
    (case a23 => k_is)
    (case l23 => k_is)
    (case c23 => k_is)
    (case k23 => k_is)
    (case a24 => k_is)
    (case l24 => k_is)
    (case c24 => k_is)
    (case k24 => k_is)
    (case a25 => k_is)
    (case l25 => k_is)
    (case c25 => k_is)
    (case k25 => k_is)
    (case a26 => k_is)
    (case l26 => k_is)
    (case c26 => k_is)
    (case k26 => k_is)
    (case a27 => k_is)
    (case l27 => k_is)
    (case c27 => k_is)
    (case k27 => k_is)
    (case a28 => k_is)
    (case l28 => k_is)
    (case c28 => k_is)
    (case k28 => k_is)
    (case a29 => k_is)
    (case l29 => k_is)
    (case c29 => k_is)
    (case k29 => k_is)
    (case a30 => k_is)
    (case l30 => k_is)
    (case c30 => k_is)
    (case k30 => k_is)
    (case a31 => k_is)
    (case l31 => k_is)
    (case c31 => k_is)
    (case k31 => k_is)
    (case a32 => k_is)
    (case l32 => k_is)
    (case c32 => k_is)
    (case k32 => k_is)
    (case a33 => k_is)
    (case l33 => k_is)
    (case c33 => k_is)
    (case k33 => k_is)
    (case a34 => k_is)
    (case l34 => k_is)
    (case c34 => k_is)
    (case k34 => k_is)
    (case a35 => k_is)
    (case l35 => k_is)
    (case c35 => k_is)
    (case k35 => k_is)
    (case a36 => k_is)
    (case l36 => k_is)
    (case c36 => k_is)
    (case k36 => k_is)
    (case a37 => k_is)
    (case l37 => k_is)
    (case c37 => k_is)
    (case k37 => k_is)
    (case a38 => k_is)
    (case l38 => k_is)
    (case c38 => k_is)
    (case k38 => k_is)
    (case a39 => k_is)
    (case l39 => k_is)
    (case c39 => k_is)
    (case k39 => k_is)
    (case n_NOUGHT => k_is)
    (case m_NOUGHT => k_is)
    (case n_ONE => k_is)
    (case m_ONE => k_is)
    (case n_LETTERS => k_is)
    (case n_MOST => k_is)
    (case n_MOST_WEIGHTS => k_is)
    (case b_abs => k_is)
    (case b_bool => k_is)
    (case b_int => k_is)
    (case b_isinstance => k_is)
    (case b_all => k_is)
    (case b_len => k_is)
    (case b_str => k_is)
    (case b_tuple => k_is)
    (case b_set => k_is)
    (case b_sorted => k_is)
    (case b_dict => k_is)
    (case b_max => k_is)
    (case b_min => k_is)
    (case b_range => k_is)

