import PyProof.Rows.All
import Wide.All
import OpenK.AllK
import Wide.FinOn
import HandS.ForMost
import HandS.ForExc
import HandS.Lambda
import HandS.TryMany
import HandS.ExcInit
import HandS.CallSlots
import HandS.IsInst
import HandS.Wide
import HandS.Flow
import HandS.Star
import HandS.NoneIn
import HandS.Deep
import HandS.Conv
import KE.GoesEnum
import HandS.Walk
import HandS.Zip
import HandS.TupAny
import HandS.More
import HandS.ExcField
import HandS.EndTab
import PySem.Challenge.RW_rowsintime_k63_whole_rules_kept
set_option Elab.async false
set_option linter.all false
set_option maxRecDepth 100000
set_option maxHeartbeats 2000000
/-! The data layer: Python values as trees, mutable lists as cells of a store, each piece of syntax a plain function. -/
namespace DL
open PySem PySem.Spec PyProof.Rows L2

/-- where the cells stand, and which addresses may still change -/
structure Wo where
  adr : List Addr
  liv : Addr → Prop

/-- what goes on to hold: the cells stay where they are, what could not change stands -/
structure Ext0 (w : Wo) (H : Hp) (w' : Wo) (H' : Hp) : Prop where
  pre : ∀ (n : Nat) (a : Addr), w.adr[n]? = some a → w'.adr[n]? = some a
  keep : ∀ a o, H a = some o → ¬ w.liv a → (∀ ps, o ≠ .tbl ps) → H' a = some o ∧ ¬ w'.liv a
/-- a value as data; cel n: the n-th cell of the store -/
inductive D where
  | non | bl (b : Bool) | int (i : Int) | str (x : Str) | lst (xs : List D) | tup (xs : List D) | cel (n : Nat) | scr (ns : List Int) | dic | fn (f c : Addr) (q : Str) (w : Wo) (H : Hp)

/-- a cell: a list that may still change, or one that no longer does -/
inductive Cell where
  | fz (xs : List D) | lst (xs : List D)
def Cell.get : Cell → List D
  | .fz xs => xs
  | .lst xs => xs

abbrev Sto := List Cell
abbrev Env' := List (Option D)

def KT (K : PySem.W.Frag) (a : Addr) (xs : List V) : Prop :=
  ∃ (o : Obj) (its : Array Value) (n : Nat), K.lookup a = some o ∧ o.cls = .type "tuple" ∧ o.data = .seq its n ∧ its.size ≤ sizeLine ∧ Vals xs its.toList
/-- a list, the script, a tuple that will not change -/
def FzL (w : Wo) (H : Hp) (a : Addr) (xs : List V) : Prop := H a = some (.lst xs) ∧ ¬ w.liv a
def KL (K : PySem.W.Frag) (a : Addr) (xs : List V) : Prop :=
  ∃ (o : Obj) (its : Array Value) (n : Nat), K.lookup a = some o ∧ o.cls = .type "list" ∧ o.dict = none ∧ o.data = .seq its n ∧ its.size ≤ sizeLine ∧ Vals xs its.toList
def FzS (K : PySem.W.Frag) (w : Wo) (H : Hp) (a : Addr) (xs : List V) : Prop := (Rd H a (.lst xs) ∧ ¬ w.liv a) ∨ KL K a xs
def FzT (K : PySem.W.Frag) (w : Wo) (H : Hp) (a : Addr) (xs : List V) : Prop := (H a = some (.tup xs) ∧ ¬ w.liv a) ∨ KT K a xs
theorem FzL.sq {K : PySem.W.Frag} {w : Wo} {H : Hp} {a : Addr} {xs : List V} (h : FzL w H a xs) : SqL K H a xs := Or.inl (Or.inl h.1)
theorem FzS.sq {K : PySem.W.Frag} {w : Wo} {H : Hp} {a : Addr} {xs : List V} (h : FzS K w H a xs) : SqL K H a xs := by
  rcases h with ⟨h, _⟩ | h
  · exact Or.inl h
  · exact Or.inr h
theorem FzT.sq {K : PySem.W.Frag} {w : Wo} {H : Hp} {a : Addr} {xs : List V} (h : FzT K w H a xs) : SqT K H a xs := by
  rcases h with ⟨h, _⟩ | h
  · exact Or.inl (Or.inl h)
  · exact Or.inr h

mutual
inductive Rep (K : PySem.W.Frag) (w : Wo) (H : Hp) : V → D → Prop
  | non : Rep K w H .non .non
  | bl (b : Bool) : Rep K w H (.bl b) (.bl b)
  | int (i : Int) : Rep K w H (.int i) (.int i)
  | str (x : Str) : Rep K w H (.str x) (.str x)
  | lst {a : Addr} {xs : List V} {ds : List D} : FzL w H a xs → Reps K w H xs ds → Rep K w H (.ref a) (.lst ds)
  | tup {a : Addr} {xs : List V} {ds : List D} : FzT K w H a xs → Reps K w H xs ds → Rep K w H (.ref a) (.tup ds)
  | cel {a : Addr} {n : Nat} : w.adr[n]? = some a → Rep K w H (.ref a) (.cel n)
  | scr {a : Addr} {ns : List Int} : FzS K w H a (ns.map V.int) → Rep K w H (.ref a) (.scr ns)
  | dic {a : Addr} : H a = some (.dK []) → ¬ w.liv a → Rep K w H (.ref a) .dic
  | fn {f c : Addr} {q : Str} {w0 : Wo} {H0 : Hp} : H c = some (LamX.CodeO c q) → ¬ w.liv c → Ext0 w0 H0 w H → Rep K w H (.ref f) (.fn f c q w0 H0)
inductive Reps (K : PySem.W.Frag) (w : Wo) (H : Hp) : List V → List D → Prop
  | nil : Reps K w H [] []
  | cons {v : V} {vs : List V} {d : D} {ds : List D} : Rep K w H v d → Reps K w H vs ds → Reps K w H (v :: vs) (d :: ds)
end

/-- .. and what may change, but is no cell of ours, stands too -/
structure Ext (w : Wo) (H : Hp) (w' : Wo) (H' : Hp) : Prop extends Ext0 w H w' H' where
  frn : ∀ a o, w.liv a → (∀ n : Nat, w.adr[n]? ≠ some a) → H a = some o → H' a = some o ∧ w'.liv a ∧ ∀ n : Nat, w'.adr[n]? ≠ some a
theorem Ext0.trans {w w1 w2 : Wo} {H H1 H2 : Hp} (a : Ext0 w H w1 H1) (b : Ext0 w1 H1 w2 H2) : Ext0 w H w2 H2 :=
  ⟨fun n x h => b.pre n x (a.pre n x h), fun x o h n t => let ⟨h1, n1⟩ := a.keep x o h n t; b.keep x o h1 n1 t⟩
theorem Ext.refl (w : Wo) (H : Hp) : Ext w H w H := ⟨⟨fun _ _ h => h, fun _ _ h n _ => ⟨h, n⟩⟩, fun _ _ l n h => ⟨h, l, n⟩⟩
theorem Ext.trans {w w1 w2 : Wo} {H H1 H2 : Hp} (a : Ext w H w1 H1) (b : Ext w1 H1 w2 H2) : Ext w H w2 H2 :=
  ⟨⟨fun n x h => b.pre n x (a.pre n x h), fun x o h n t => let ⟨h1, n1⟩ := a.keep x o h n t; b.keep x o h1 n1 t⟩, fun x o l n h => let ⟨h1, l1, n1⟩ := a.frn x o l n h; b.frn x o l1 n1 h1⟩
section
variable {K : PySem.W.Frag} {w w' : Wo} {H H' : Hp}
theorem FzL.ext0 {a : Addr} {xs : List V} (e : Ext0 w H w' H') (h : FzL w H a xs) : FzL w' H' a xs := e.keep a _ h.1 h.2 fun ps z => by cases z
theorem FzS.ext0 {a : Addr} {xs : List V} (e : Ext0 w H w' H') (h : FzS K w H a xs) : FzS K w' H' a xs := by
  rcases h with ⟨h | ⟨o, h⟩, n⟩ | h
  · obtain ⟨h1, n1⟩ := e.keep a _ h n (fun ps z => by cases z)
    exact .inl ⟨.inl h1, n1⟩
  · obtain ⟨h1, n1⟩ := e.keep a _ h n (fun ps z => by cases z)
    exact .inl ⟨.inr ⟨o, h1⟩, n1⟩
  · exact .inr h
theorem FzT.ext0 {a : Addr} {xs : List V} (e : Ext0 w H w' H') (h : FzT K w H a xs) : FzT K w' H' a xs := by
  rcases h with ⟨h, n⟩ | h
  · exact Or.inl (e.keep a _ h n fun ps z => by cases z)
  · exact Or.inr h
mutual
theorem Rep.ext0 (e : Ext0 w H w' H') : ∀ {v : V} {d : D}, Rep K w H v d → Rep K w' H' v d
  | _, _, .non => .non
  | _, _, .bl b => .bl b
  | _, _, .int i => .int i
  | _, _, .str x => .str x
  | _, _, .lst h r => .lst (h.ext0 e) (Reps.ext0 e r)
  | _, _, .tup h r => .tup (h.ext0 e) (Reps.ext0 e r)
  | _, _, .cel h => .cel (e.pre _ _ h)
  | _, _, .scr h => .scr (h.ext0 e)
  | _, _, .dic h n => .dic (e.keep _ _ h n fun ps z => by cases z).1 (e.keep _ _ h n fun ps z => by cases z).2
  | _, _, .fn h n e1 => .fn (e.keep _ _ h n fun ps z => LamX.codeO_ne ps z).1 (e.keep _ _ h n fun ps z => LamX.codeO_ne ps z).2 (e1.trans e)
theorem Reps.ext0 (e : Ext0 w H w' H') : ∀ {vs : List V} {ds : List D}, Reps K w H vs ds → Reps K w' H' vs ds
  | _, _, .nil => .nil
  | _, _, .cons h r => .cons (Rep.ext0 e h) (Reps.ext0 e r)
end
theorem FzL.ext {a : Addr} {xs : List V} (e : Ext w H w' H') (h : FzL w H a xs) : FzL w' H' a xs := h.ext0 e.toExt0
theorem FzS.ext {a : Addr} {xs : List V} (e : Ext w H w' H') (h : FzS K w H a xs) : FzS K w' H' a xs := h.ext0 e.toExt0
theorem FzT.ext {a : Addr} {xs : List V} (e : Ext w H w' H') (h : FzT K w H a xs) : FzT K w' H' a xs := h.ext0 e.toExt0
theorem Rep.ext (e : Ext w H w' H') {v : V} {d : D} (h : Rep K w H v d) : Rep K w' H' v d := h.ext0 e.toExt0
theorem Reps.ext (e : Ext w H w' H') {v : List V} {d : List D} (h : Reps K w H v d) : Reps K w' H' v d := h.ext0 e.toExt0
theorem Reps.length : ∀ {vs : List V} {ds : List D}, Reps K w H vs ds → vs.length = ds.length
  | _, _, .nil => rfl
  | _, _, .cons _ r => congrArg (· + 1) (Reps.length r)
theorem Reps.get : ∀ {vs : List V} {ds : List D} {i : Nat} {d : D}, Reps K w H vs ds → ds[i]? = some d → ∃ v, vs[i]? = some v ∧ Rep K w H v d
  | _, _, _, _, .nil, e => by simp at e
  | _, _, 0, _, .cons r _, e => by simp at e; subst e; exact ⟨_, rfl, r⟩
  | _, _, i + 1, d, .cons _ t, e => by
    obtain ⟨u, h1, h2⟩ := Reps.get (i := i) (d := d) t (by simpa using e)
    exact ⟨u, by simpa using h1, h2⟩
theorem Reps.get' : ∀ {vs : List V} {ds : List D} {i : Nat} {v : V}, Reps K w H vs ds → vs[i]? = some v → ∃ d, ds[i]? = some d ∧ Rep K w H v d
  | _, _, _, _, .nil, e => by simp at e
  | _, _, 0, _, .cons r _, e => by simp at e; subst e; exact ⟨_, rfl, r⟩
  | _, _, i + 1, d, .cons _ t, e => by
    obtain ⟨u, h1, h2⟩ := Reps.get' (i := i) (v := d) t (by simpa using e)
    exact ⟨u, by simpa using h1, h2⟩
theorem Reps.append : ∀ {vs us : List V} {ds es : List D}, Reps K w H vs ds → Reps K w H us es → Reps K w H (vs ++ us) (ds ++ es)
  | _, _, _, _, .nil, s => s
  | _, _, _, _, .cons r t, s => .cons r (Reps.append t s)
theorem Reps.take : ∀ {vs : List V} {ds : List D} (n : Nat), Reps K w H vs ds → Reps K w H (vs.take n) (ds.take n)
  | _, _, 0, _ => .nil
  | _, _, _ + 1, .nil => .nil
  | _, _, n + 1, .cons r t => .cons r (Reps.take n t)
theorem Reps.drop : ∀ {vs : List V} {ds : List D} (n : Nat), Reps K w H vs ds → Reps K w H (vs.drop n) (ds.drop n)
  | _, _, 0, r => r
  | _, _, _ + 1, .nil => .nil
  | _, _, n + 1, .cons _ t => Reps.drop n t
theorem Reps.set {v : V} {d : D} (r : Rep K w H v d) : ∀ {vs : List V} {ds : List D} (n : Nat), Reps K w H vs ds → Reps K w H (vs.set n v) (ds.set n d)
  | _, _, _, .nil => .nil
  | _, _, 0, .cons _ t => .cons r t
  | _, _, n + 1, .cons q t => .cons q (Reps.set r n t)
theorem Reps.eraseIdx : ∀ {vs : List V} {ds : List D} (n : Nat), Reps K w H vs ds → Reps K w H (vs.eraseIdx n) (ds.eraseIdx n)
  | _, _, _, .nil => by simpa using Reps.nil
  | _, _, 0, .cons _ t => t
  | _, _, n + 1, .cons q t => .cons q (Reps.eraseIdx n t)
theorem Reps.ints : ∀ {vs : List V} {ns : List Int}, Reps K w H vs (ns.map D.int) → vs = ns.map V.int
  | _, [], .nil => rfl
  | _, _ :: _, .cons r t => by
    cases r
    rw [Reps.ints t]
    rfl
theorem Reps.of_ints : ∀ (ns : List Int), Reps K w H (ns.map V.int) (ns.map D.int)
  | [] => .nil
  | n :: ns => .cons (.int n) (Reps.of_ints ns)
end

/-! ### the store and the heap -/
def CellOk (K : PySem.W.Frag) (w : Wo) (H : Hp) (a : Addr) (c : Cell) : Prop := ∃ xs, H a = some (.lst xs) ∧ Reps K w H xs c.get
/-- T: the tables of code objects -/
structure RSt (K : PySem.W.Frag) (T : List (Addr × Str)) (w : Wo) (st : Sto) (H : Hp) : Prop where
  len : w.adr.length = st.length
  nd : w.adr.Nodup
  livH : ∀ a, w.liv a → ∃ xs, H a = some (.lst xs)
  livL : ∀ (n : Nat) (a : Addr) (ds : List D), w.adr[n]? = some a → st[n]? = some (.lst ds) → w.liv a
  livF : ∀ (n : Nat) (a : Addr) (ds : List D), w.adr[n]? = some a → st[n]? = some (.fz ds) → ¬ w.liv a
  cell : ∀ (n : Nat) (a : Addr) (c : Cell), w.adr[n]? = some a → st[n]? = some c → CellOk K w H a c
  tab : LamX.Tabs T H
def REnv (K : PySem.W.Frag) (w : Wo) (H : Hp) (env : Env') (σ : L2.St) : Prop :=
  env.length = σ.length ∧ ∀ (i : Nat) (d : D), env[i]? = some (some d) → ∃ v, σ[i]? = some (some v) ∧ Rep K w H v d
theorem REnv.ext {K : PySem.W.Frag} {w w' : Wo} {H H' : Hp} {env : Env'} {σ : L2.St} (e : Ext w H w' H') (r : REnv K w H env σ) : REnv K w' H' env σ :=
  ⟨r.1, fun i d h => let ⟨v, h1, h2⟩ := r.2 i d h; ⟨v, h1, h2.ext e⟩⟩
theorem REnv.set {K : PySem.W.Frag} {w : Wo} {H : Hp} {env : Env'} {σ : L2.St} {v : V} {d : D} (i : Nat) (r : REnv K w H env σ) (rv : Rep K w H v d) : REnv K w H (env.set i (some d)) (σ.set i (some v)) := by
  refine ⟨by simpa using r.1, fun j d' h => ?_⟩
  by_cases e : i = j
  · subst e
    by_cases hi : i < env.length
    · rw [List.getElem?_set_self hi] at h
      cases h
      exact ⟨v, List.getElem?_set_self (by rw [← r.1]; exact hi), rv⟩
    · rw [List.getElem?_eq_none (by simpa using Nat.le_of_not_lt hi)] at h
      cases h
  · rw [List.getElem?_set_ne e] at h
    obtain ⟨v', h1, h2⟩ := r.2 j d' h
    exact ⟨v', by rw [List.getElem?_set_ne e]; exact h1, h2⟩

/-! ### what comes out -/
inductive Out (α : Type) where
  | ok (a : α) (st : Sto)
  | err (c : Str) (fs : List (Str × D)) (st : Sto)
  | bad
/-- an error: its class by name, its fields -/
inductive RepF (K : PySem.W.Frag) (w : Wo) (H : Hp) : List (Str × V) → List (Str × D) → Prop
  | nil : RepF K w H [] []
  | cons {f : Str} {v : V} {d : D} {fs : List (Str × V)} {gs : List (Str × D)} : Rep K w H v d → RepF K w H fs gs → RepF K w H ((f, v) :: fs) ((f, d) :: gs)
def ExcOk (K : PySem.W.Frag) (mg : Str → Option Value) (w : Wo) (H : Hp) (c : Str) (fs : List (Str × D)) (cls : Value) (d : Option Addr) : Prop :=
  ∃ C : Addr, mg c = some (.ref C) ∧ cls = .ref C ∧ (match fs with
    | [] => d = none
    | _ => ∃ dx vs, d = some dx ∧ H dx = some (.xd vs) ∧ ¬ w.liv dx ∧ RepF K w H vs fs)

/-- the ground: the written part, the module's names, the tables, what is wished of an error -/
structure Gr where
  K : PySem.W.Frag
  mg : Str → Option Value
  T : List (Addr × Str)

/-- what is wanted of what comes out: of a value, of an error -/
def Fit {α β : Type} (G : Gr) (R : Wo → Hp → β → α → Prop) (w : Wo) (H : Hp) (Q : β → Hp → Prop) (E : XK) : Out α → Prop
  | .ok d st' => ∀ w' H' v, RSt G.K G.T w' st' H' → Ext w H w' H' → R w' H' v d → Q v H'
  | .err c fs st' => ∀ w' H' cls dx, RSt G.K G.T w' st' H' → Ext w H w' H' → ExcOk G.K G.mg w' H' c fs cls dx → E cls dx H'
  | .bad => False
abbrev FitD (G : Gr) := Fit G (fun w H => Rep G.K w H)
abbrev FitA (G : Gr) := Fit G (fun w H => Reps G.K w H)
abbrev FitB (G : Gr) := Fit G (fun _ _ (b c : Bool) => b = c)
abbrev EM (α : Type) := Env' → Sto → Out α
def bnd {α β : Type} (x : Out α) (f : α → Sto → Out β) : Out β := match x with
  | .ok a st => f a st
  | .err c fs st => .err c fs st
  | .bad => .bad
@[simp] theorem bnd_ok {α β : Type} (a : α) (st : Sto) (f : α → Sto → Out β) : bnd (.ok a st) f = f a st := rfl
@[simp] theorem bnd_err {α β : Type} (c : Str) (fs : List (Str × D)) (st : Sto) (f : α → Sto → Out β) : bnd (.err c fs st) f = .err c fs st := rfl
@[simp] theorem bnd_bad {α β : Type} (f : α → Sto → Out β) : bnd (.bad) f = .bad := rfl

/-- the readings: m computes it -/
def dE (G : Gr) (W : WX) (m : EM D) : TE := fun σ H Q => ∃ w env st, RSt G.K G.T w st H ∧ REnv G.K w H env σ ∧ FitD G w H Q (fun c d H' => W c d σ H') (m env st)
def dA (G : Gr) (W : WX) (m : EM (List D)) : TA := fun σ H Q => ∃ w env st, RSt G.K G.T w st H ∧ REnv G.K w H env σ ∧ FitA G w H Q (fun c d H' => W c d σ H') (m env st)
def dT (G : Gr) (W : WX) (m : EM Bool) : TT := fun σ H Q => ∃ w env st, RSt G.K G.T w st H ∧ REnv G.K w H env σ ∧ FitB G w H Q (fun c d H' => W c d σ H') (m env st)

theorem PE.imp {X : Cx} {e : Expr} {t t' : TE} (h : PE X e t) (i : ∀ σ H Q, t' σ H Q → t σ H Q) : PE X e t' := ⟨fun pins s σ H Q I q => h.run pins s σ H Q I (i σ H Q q)⟩
theorem PT.imp {X : Cx} {e : Expr} {t t' : TT} (h : PT X e t) (i : ∀ σ H Q, t' σ H Q → t σ H Q) : PT X e t' := ⟨fun pins s σ H Q I q => h.run pins s σ H Q I (i σ H Q q)⟩
theorem PW.imp {X : Cx} {e : Expr} {t t' : TT} (h : PW X e t) (i : ∀ σ H Q, t' σ H Q → t σ H Q) : PW X e t' := ⟨fun wh pins s σ H Q I q => h.run wh pins s σ H Q I (i σ H Q q)⟩
theorem PA.imp {X : Cx} {e : List Expr} {t t' : TA} (h : PA X e t) (i : ∀ σ H Q, t' σ H Q → t σ H Q) : PA X e t' := ⟨fun pos pins s σ H Q I q => h.run pos pins s σ H Q I (i σ H Q q)⟩
theorem PS.imp {X : Cx} {e : Stmt} {t t' : TS} (h : PS X e t) (i : ∀ D σ H, t' D σ H → t D σ H) : PS X e t' := ⟨fun pins s σ H D I q => h.run pins s σ H D I (i D σ H q)⟩
theorem PSs.imp {X : Cx} {e : List Stmt} {t t' : TS} (h : PSs X e t) (i : ∀ D σ H, t' D σ H → t D σ H) : PSs X e t' := ⟨fun pins s σ H D I q => h.run pins s σ H D I (i D σ H q)⟩

section
variable {G : Gr} {α β γ δ : Type}
/-- what comes out first, then what is made of it -/
theorem Fit.bind {R : Wo → Hp → β → α → Prop} {R' : Wo → Hp → δ → γ → Prop} {w : Wo} {H : Hp} {Q : δ → Hp → Prop} {Q1 : β → Hp → Prop} {E : XK} {x : Out α} {f : α → Sto → Out γ} (h : Fit G R' w H Q E (bnd x f))
    (k : ∀ d st' w' H' v, RSt G.K G.T w' st' H' → Ext w H w' H' → R w' H' v d → Fit G R' w' H' Q E (f d st') → Q1 v H') : Fit G R w H Q1 E x := by
  cases x with
  | ok d st' =>
    intro w' H' v rs e r
    refine k d st' w' H' v rs e r ?_
    have h' : Fit G R' w H Q E (f d st') := h
    cases q : f d st' with
    | ok g s2 =>
      rw [q] at h'
      intro w2 H2 v2 rs2 e2 r2
      exact h' w2 H2 v2 rs2 (e.trans e2) r2
    | err c fs s2 =>
      rw [q] at h'
      intro w2 H2 cls dx rs2 e2 x2
      exact h' w2 H2 cls dx rs2 (e.trans e2) x2
    | bad => rw [q] at h'; exact h'
  | err c fs st' => exact h
  | bad => exact h
theorem Fit.ext {R : Wo → Hp → β → α → Prop} {w w' : Wo} {H H' : Hp} {Q : β → Hp → Prop} {E : XK} {x : Out α} (h : Fit G R w H Q E x) (e : Ext w H w' H') : Fit G R w' H' Q E x := by
  cases x with
  | ok d st' => exact fun w2 H2 v rs e2 r => h w2 H2 v rs (e.trans e2) r
  | err c fs st' => exact fun w2 H2 cls dx rs e2 r => h w2 H2 cls dx rs (e.trans e2) r
  | bad => exact h
theorem Fit.imp {R : Wo → Hp → β → α → Prop} {w : Wo} {H : Hp} {Q Q' : β → Hp → Prop} {E E' : XK} {x : Out α} (h : Fit G R w H Q E x) (hq : ∀ v H', Q v H' → Q' v H') (he : ∀ c d H', E c d H' → E' c d H') : Fit G R w H Q' E' x := by
  cases x with
  | ok d st' => exact fun w2 H2 v rs e2 r => hq _ _ (h w2 H2 v rs e2 r)
  | err c fs st' => exact fun w2 H2 cls dx rs e2 r => he _ _ _ (h w2 H2 cls dx rs e2 r)
  | bad => exact h
/-- a value that stands already -/
theorem Fit.now {R : Wo → Hp → β → α → Prop} {w : Wo} {H : Hp} {Q : β → Hp → Prop} {E : XK} {d : α} {st : Sto} {v : β} (h : Fit G R w H Q E (.ok d st)) (rs : RSt G.K G.T w st H) (r : R w H v d) : Q v H := h w H v rs (Ext.refl w H) r
end

/-! ### expressions -/
section
variable {X : Cx} {G : Gr} {W : WX} {a b : Expr} {ma mb : EM D}
def eC (d : D) : EM D := fun _ st => .ok d st
def eV (i : Nat) : EM D := fun env st => match env[i]? with
  | some (some d) => .ok d st
  | _ => .bad
theorem de_int {i j pos} : PE X (.Constant (.int i) j pos) (dE G W (eC (.int i))) := PE.imp pe_int fun σ H Q ⟨w, env, st, rs, re, h⟩ => h.now rs (.int i)
theorem de_bl {b j pos} : PE X (.Constant (.bool b) j pos) (dE G W (eC (.bl b))) := PE.imp pe_bl fun σ H Q ⟨w, env, st, rs, re, h⟩ => h.now rs (.bl b)
theorem de_non {j pos} : PE X (.Constant .none j pos) (dE G W (eC .non)) := PE.imp pe_non fun σ H Q ⟨w, env, st, rs, re, h⟩ => h.now rs .non
theorem de_str {x j pos} : PE X (.Constant (.str x) j pos) (dE G W (eC (.str x))) := PE.imp pe_str fun σ H Q ⟨w, env, st, rs, re, h⟩ => h.now rs (.str x)
theorem de_v (i : Nat) {x : Str} {pos : Pos} (hN : X.N[i]? = some x := by rfl) (hv : Vis X.env.scope x := by first | exact Or.inl rfl | exact Or.inr (Or.inl rfl) | exact Or.inr (Or.inr rfl)) (hd : (x == ("__debug__" : Str)) = false := by decide)
    (hcd : (x == ("__classdict__" : Str)) = false := by decide) : PE X (.Name x pos) (dE G W (eV i)) := PE.imp (pe_var hN hv hd hcd) fun σ H Q ⟨w, env, st, rs, re, h⟩ => by
  unfold eV at h
  cases e : env[i]? with
  | none => rw [e] at h; exact h.elim
  | some o =>
    cases o with
    | none => rw [e] at h; exact h.elim
    | some d =>
      rw [e] at h
      obtain ⟨v, h1, h2⟩ := re.2 i d e
      exact ⟨v, h1, h.now rs h2⟩

/-- an operation on two values; f says what it makes of their data -/
def OpS (X : Cx) (G : Gr) (r : R2) (f : D → D → Sto → Out D) : Prop :=
  ∀ (w : Wo) (st : Sto) (H : Hp) (x y : V) (dx dy : D) (Q : VK), RSt G.K G.T w st H → Rep G.K w H x dx → Rep G.K w H y dy → FitD G w H Q E0 (f dx dy st) → r x y H Q
/-- f raises nothing of its own -/
def Calm (x : Out D) : Prop := match x with
  | .err _ _ _ => False
  | _ => True
def eOp (f : D → D → Sto → Out D) (ma mb : EM D) : EM D := fun env st => bnd (ma env st) fun x st => bnd (mb env st) fun y st => f x y st
theorem fit_calm {w : Wo} {H : Hp} {Q : VK} {E : XK} {x : Out D} (h : FitD G w H Q E x) (c : Calm x) : FitD G w H Q E0 x := by
  cases x with
  | ok d st => exact h
  | err _ _ _ => exact c.elim
  | bad => exact h
theorem dop {r : R2} {f : D → D → Sto → Out D} (hr : OpS X G r f) (hc : ∀ x y st, Calm (f x y st)) {σ : L2.St} {H : Hp} {Q : VK} (h : dE G W (eOp f ma mb) σ H Q) : tOp r (dE G W ma) (dE G W mb) σ H Q := by
  obtain ⟨w, env, st, rs, re, h⟩ := h
  refine ⟨w, env, st, rs, re, Fit.bind h fun dx st1 w1 H1 x rs1 e1 rx h1 => ?_⟩
  refine ⟨w1, env, st1, rs1, re.ext e1, Fit.bind h1 fun dy st2 w2 H2 y rs2 e2 ry h2 => ?_⟩
  exact hr w2 st2 H2 x y dx dy Q rs2 (rx.ext e2) ry (fit_calm h2 (hc _ _ _))
theorem de_op {op : Operator} {r : R2} {pos : Pos} {f : D → D → Sto → Out D} (ho : OpR X (binaryOp op) r) (hr : OpS X G r f) (hc : ∀ x y st, Calm (f x y st)) (ha : PE X a (dE G W ma)) (hb : PE X b (dE G W mb)) : PE X (.BinOp a op b pos) (dE G W (eOp f ma mb)) :=
  PE.imp (pe_op ho ha hb) fun _ _ _ h => dop hr hc h
theorem de_cmp {op : CmpOp} {r : R2} {pos : Pos} {f : D → D → Sto → Out D} (ho : OpR X (compareOp op) r) (hr : OpS X G r f) (hc : ∀ x y st, Calm (f x y st)) (ha : PE X a (dE G W ma)) (hb : PE X b (dE G W mb)) (hm : behindInMarks op b = false) :
    PE X (.Compare a [op] [b] pos) (dE G W (eOp f ma mb)) := PE.imp (pe_cmpR ho ha hb hm) fun _ _ _ h => dop hr hc h
end
end DL

set_option Elab.async false
set_option linter.all false
set_option maxRecDepth 100000
set_option maxHeartbeats 2000000
namespace DL
open PySem PySem.Spec PyProof.Rows L2

/-! ### the store -/
section
variable {K : PySem.W.Frag} {T : List (Addr × Str)} {w : Wo} {st : Sto} {H : Hp} {p a : Addr} {o : HO} {n : Nat} {c : Cell}
theorem RSt.at (rs : RSt K T w st H) {n : Nat} (h : w.adr[n]? = some a) : ∃ c, st[n]? = some c ∧ CellOk K w H a c := by
  have hl : n < w.adr.length := (List.getElem?_eq_some_iff.mp h).1
  have hl2 : n < st.length := by rw [← rs.len]; exact hl
  have e : st[n]? = some (st[n]'hl2) := List.getElem?_eq_getElem hl2
  exact ⟨_, e, rs.cell n a _ h e⟩
theorem RSt.notIn (rs : RSt K T w st H) (hp : H p = none) {n : Nat} : w.adr[n]? ≠ some p := fun h => by
  obtain ⟨c, _, xs, e, _⟩ := rs.at h
  rw [hp] at e
  cases e
theorem RSt.notLive (rs : RSt K T w st H) (hp : H p = none) : ¬ w.liv p := fun h => by
  obtain ⟨xs, e⟩ := rs.livH p h
  rw [hp] at e
  cases e
theorem Ext.new (hn : H p = none) : Ext w H w (upd H p o) :=
  ⟨⟨fun _ _ h => h, fun a u h n _ => ⟨by rw [upd_ne (ne_of_none h hn)]; exact h, n⟩⟩, fun a u l n h => ⟨by rw [upd_ne (ne_of_none h hn)]; exact h, l, n⟩⟩
theorem RSt.new (rs : RSt K T w st H) (hp : H p = none) : RSt K T w st (upd H p o) where
  len := rs.len
  nd := rs.nd
  livH := fun a l => by
    obtain ⟨xs, e⟩ := rs.livH a l
    exact ⟨xs, by rw [upd_ne (ne_of_none e hp)]; exact e⟩
  livL := rs.livL
  livF := rs.livF
  cell := fun n a c h1 h2 => by
    obtain ⟨xs, e, r⟩ := rs.cell n a c h1 h2
    exact ⟨xs, by rw [upd_ne (ne_of_none e hp)]; exact e, r.ext (Ext.new hp)⟩
  tab := rs.tab.ext fun b u h => by rw [upd_ne (ne_of_none h hp)]; exact h
/-- a new list, a new tuple that will not change -/
theorem RSt.newL {xs : List V} {ds : List D} (rs : RSt K T w st H) (hp : H p = none) (r : Reps K w H xs ds) : RSt K T w st (upd H p (.lst xs)) ∧ Ext w H w (upd H p (.lst xs)) ∧ Rep K w (upd H p (.lst xs)) (.ref p) (.lst ds) :=
  ⟨rs.new hp, Ext.new hp, .lst ⟨upd_same, rs.notLive hp⟩ (r.ext (Ext.new hp))⟩
theorem RSt.newT {xs : List V} {ds : List D} (rs : RSt K T w st H) (hp : H p = none) (r : Reps K w H xs ds) : RSt K T w st (upd H p (.tup xs)) ∧ Ext w H w (upd H p (.tup xs)) ∧ Rep K w (upd H p (.tup xs)) (.ref p) (.tup ds) :=
  ⟨rs.new hp, Ext.new hp, .tup (.inl ⟨upd_same, rs.notLive hp⟩) (r.ext (Ext.new hp))⟩
def Wo.push (w : Wo) (p : Addr) : Wo := ⟨w.adr ++ [p], fun a => w.liv a ∨ a = p⟩
theorem Ext.newC (hn : H p = none) : Ext w H (w.push p) (upd H p o) := by
  refine ⟨⟨fun n a h => ?_, fun a u h nl _ => ⟨by rw [upd_ne (ne_of_none h hn)]; exact h, fun z => ?_⟩⟩, fun a u l nn h => ⟨by rw [upd_ne (ne_of_none h hn)]; exact h, .inl l, fun n z => ?_⟩⟩
  · show (w.adr ++ [p])[n]? = some a
    rw [List.getElem?_append_left (List.getElem?_eq_some_iff.mp h).1]
    exact h
  · rcases z with z | z
    · exact nl z
    · exact ne_of_none h hn z
  · have z' : (w.adr ++ [p])[n]? = some a := z
    rw [List.getElem?_append] at z'
    split at z'
    · exact nn n z'
    · have hm : a ∈ [p] := List.mem_of_getElem? z'
      exact ne_of_none h hn (by simpa using hm)
/-- a new cell -/
theorem RSt.newC {xs : List V} {ds : List D} (rs : RSt K T w st H) (hp : H p = none) (r : Reps K w H xs ds) : RSt K T (w.push p) (st ++ [.lst ds]) (upd H p (.lst xs)) ∧ Ext w H (w.push p) (upd H p (.lst xs)) ∧ Rep K (w.push p) (upd H p (.lst xs)) (.ref p) (.cel st.length) := by
  have ex : Ext w H (w.push p) (upd H p (.lst xs)) := Ext.newC hp
  have at1 : ∀ {n : Nat} {a : Addr} {c : Cell}, (w.push p).adr[n]? = some a → (st ++ [Cell.lst ds])[n]? = some c → (w.adr[n]? = some a ∧ st[n]? = some c) ∨ (n = st.length ∧ a = p ∧ c = .lst ds) := by
    intro n a c h1 h2
    have h1' : (w.adr ++ [p])[n]? = some a := h1
    by_cases hl : n < st.length
    · rw [List.getElem?_append_left (by rw [rs.len]; exact hl)] at h1'
      rw [List.getElem?_append_left hl] at h2
      exact .inl ⟨h1', h2⟩
    · rw [List.getElem?_append_right (by rw [rs.len]; omega)] at h1'
      rw [List.getElem?_append_right (by omega)] at h2
      have e : n - st.length = 0 := by
        cases q : n - st.length with
        | zero => rfl
        | succ k => rw [q] at h2; simp at h2
      rw [rs.len, e] at h1'
      rw [e] at h2
      simp at h1' h2
      exact .inr ⟨by omega, h1'.symm, h2.symm⟩
  refine ⟨⟨?_, ?_, fun a l => ?_, fun n a zs h1 h2 => ?_, fun n a zs h1 h2 l => ?_, fun n a c h1 h2 => ?_, ?_⟩, ex, ?_⟩
  · show (w.adr ++ [p]).length = (st ++ [Cell.lst ds]).length
    rw [List.length_append, List.length_append, rs.len]
    rfl
  · show (w.adr ++ [p]).Nodup
    rw [List.nodup_append]
    refine ⟨rs.nd, by simp, fun x hx y hy z => ?_⟩
    obtain ⟨n, hn⟩ := List.getElem?_of_mem hx
    have hy' : y = p := by simpa using hy
    rw [z, hy'] at hn
    exact rs.notIn hp hn
  · rcases l with l | l
    · obtain ⟨ys, e⟩ := rs.livH a l
      exact ⟨ys, by rw [upd_ne (ne_of_none e hp)]; exact e⟩
    · rw [l]
      exact ⟨xs, upd_same⟩
  · rcases at1 h1 h2 with ⟨h1, h2⟩ | ⟨_, h1, _⟩
    · exact .inl (rs.livL n a zs h1 h2)
    · exact .inr h1
  · rcases at1 h1 h2 with ⟨h1, h2⟩ | ⟨_, _, h2⟩
    · rcases l with l | l
      · exact rs.livF n a zs h1 h2 l
      · rw [l] at h1
        exact rs.notIn hp h1
    · cases h2
  · rcases at1 h1 h2 with ⟨h1, h2⟩ | ⟨_, h1, h2⟩
    · obtain ⟨ys, e, q⟩ := rs.cell n a c h1 h2
      exact ⟨ys, by rw [upd_ne (ne_of_none e hp)]; exact e, q.ext ex⟩
    · subst h1 h2
      exact ⟨xs, upd_same, r.ext ex⟩
  · exact rs.tab.ext fun b u h => by rw [upd_ne (ne_of_none h hp)]; exact h
  · refine .cel ?_
    show (w.adr ++ [p])[st.length]? = some p
    rw [← rs.len]
    simp
theorem nodup_ixA {N : List Addr} (hN : N.Nodup) {i j : Nat} {x : Addr} (a : N[i]? = some x) (b : N[j]? = some x) : i = j := by
  obtain ⟨h1, e1⟩ := List.getElem?_eq_some_iff.mp a
  obtain ⟨h2, e2⟩ := List.getElem?_eq_some_iff.mp b
  exact (List.getElem_inj hN).mp (e1.trans e2.symm)
theorem tabs_put {xs ys : List V} (t : LamX.Tabs T H) (h : H a = some (.lst ys)) : LamX.Tabs T (upd H a (.lst xs)) := fun q hq => by
  obtain ⟨ps, h1, h2, h3⟩ := t q hq
  refine ⟨ps, ?_, h2, fun pos cv hc => ?_⟩
  · rw [upd_ne (ne_of h1 h (by intro z; cases z))]
    exact h1
  · obtain ⟨c, e, hc'⟩ := h3 pos cv hc
    refine ⟨c, e, ?_⟩
    have ne : c ≠ a := ne_of hc' h (by intro z; cases z)
    rw [upd_ne ne]
    exact hc'
/-- a cell is written -/
theorem RSt.put {xs : List V} {ds ds' : List D} (rs : RSt K T w st H) (h1 : w.adr[n]? = some a) (h2 : st[n]? = some (.lst ds)) (r : Reps K w H xs ds') : RSt K T w (st.set n (.lst ds')) (upd H a (.lst xs)) ∧ Ext w H w (upd H a (.lst xs)) := by
  have la : w.liv a := rs.livL n a ds h1 h2
  have ex : Ext w H w (upd H a (.lst xs)) := ⟨⟨fun _ _ h => h, fun b u h nl _ => ⟨by rw [upd_ne (fun z : b = a => nl (z ▸ la))]; exact h, nl⟩⟩,
    fun b u l nn h => ⟨by rw [upd_ne (fun z : b = a => nn n (z ▸ h1))]; exact h, l, nn⟩⟩
  obtain ⟨ys, ey, _⟩ := rs.cell n a _ h1 h2
  have hn : n < st.length := (List.getElem?_eq_some_iff.mp h2).1
  have same : ∀ {m : Nat}, w.adr[m]? = some a → m = n := fun {m} hm => nodup_ixA rs.nd hm h1
  refine ⟨⟨?_, rs.nd, fun b l => ?_, fun m b zs g1 g2 => ?_, fun m b zs g1 g2 => ?_, fun m b c g1 g2 => ?_, tabs_put rs.tab ey⟩, ex⟩
  · rw [List.length_set]; exact rs.len
  · by_cases e : b = a
    · rw [e]; exact ⟨xs, upd_same⟩
    · obtain ⟨zs, ez⟩ := rs.livH b l
      exact ⟨zs, by rw [upd_ne e]; exact ez⟩
  · by_cases e : m = n
    · subst e
      rw [h1] at g1
      cases g1
      exact la
    · rw [List.getElem?_set_ne (Ne.symm e)] at g2
      exact rs.livL m b zs g1 g2
  · by_cases e : m = n
    · subst e
      rw [List.getElem?_set_self hn] at g2
      cases g2
    · rw [List.getElem?_set_ne (Ne.symm e)] at g2
      exact rs.livF m b zs g1 g2
  · by_cases e : m = n
    · subst e
      rw [h1] at g1
      cases g1
      rw [List.getElem?_set_self hn] at g2
      cases g2
      exact ⟨xs, upd_same, r.ext ex⟩
    · rw [List.getElem?_set_ne (Ne.symm e)] at g2
      obtain ⟨zs, ez, q⟩ := rs.cell m b c g1 g2
      refine ⟨zs, ?_, q.ext ex⟩
      rw [upd_ne (fun z : b = a => e (same (z ▸ g1)))]
      exact ez
def Wo.drop (w : Wo) (p : Addr) : Wo := ⟨w.adr, fun a => w.liv a ∧ a ≠ p⟩
/-- a cell is given up for changes: what stands in it is data from now on -/
theorem RSt.freeze {ds : List D} (rs : RSt K T w st H) (h1 : w.adr[n]? = some a) (h2 : st[n]? = some (.lst ds)) : RSt K T (w.drop a) (st.set n (.fz ds)) H ∧ Ext w H (w.drop a) H ∧ Rep K (w.drop a) H (.ref a) (.lst ds) := by
  have ex : Ext w H (w.drop a) H := ⟨⟨fun _ _ h => h, fun b u h nl _ => ⟨h, fun z => nl z.1⟩⟩, fun b u l nn h => ⟨h, ⟨l, fun z : b = a => nn n (z ▸ h1)⟩, nn⟩⟩
  have hn : n < st.length := (List.getElem?_eq_some_iff.mp h2).1
  obtain ⟨ys, ey, ry⟩ := rs.cell n a _ h1 h2
  refine ⟨⟨?_, rs.nd, fun b l => rs.livH b l.1, fun m b zs g1 g2 => ?_, fun m b zs g1 g2 l => ?_, fun m b c g1 g2 => ?_, rs.tab⟩, ex, .lst ⟨ey, fun z => z.2 rfl⟩ (ry.ext ex)⟩
  · rw [List.length_set]; exact rs.len
  · by_cases e : m = n
    · subst e
      rw [List.getElem?_set_self hn] at g2
      cases g2
    · rw [List.getElem?_set_ne (Ne.symm e)] at g2
      exact ⟨rs.livL m b zs g1 g2, fun z => e (nodup_ixA rs.nd (z ▸ g1) h1)⟩
  · by_cases e : m = n
    · subst e
      have g1' : w.adr[m]? = some b := g1
      rw [h1] at g1'
      cases g1'
      exact l.2 rfl
    · rw [List.getElem?_set_ne (Ne.symm e)] at g2
      exact rs.livF m b zs g1 g2 l.1
  · by_cases e : m = n
    · subst e
      rw [List.getElem?_set_self hn] at g2
      cases g2
      have g1' : w.adr[m]? = some b := g1
      rw [h1] at g1'
      cases g1'
      exact ⟨ys, ey, ry.ext ex⟩
    · rw [List.getElem?_set_ne (Ne.symm e)] at g2
      obtain ⟨zs, ez, q⟩ := rs.cell m b c g1 g2
      exact ⟨zs, ez, q.ext ex⟩
/-- a cell that no longer changes is data -/
theorem RSt.frozen {ds : List D} (rs : RSt K T w st H) (h1 : w.adr[n]? = some a) (h2 : st[n]? = some (.fz ds)) : Rep K w H (.ref a) (.lst ds) := by
  obtain ⟨ys, ey, ry⟩ := rs.cell n a _ h1 h2
  exact .lst ⟨ey, rs.livF n a ds h1 h2⟩ ry
end

/-! ### sequences -/
/-- the items of a list, a tuple, a cell, the script -/
def seqOf (st : Sto) : D → Option (List D)
  | .lst ds => some ds
  | .tup ds => some ds
  | .cel n => (st[n]?).map Cell.get
  | .scr ns => some (ns.map D.int)
  | _ => none
theorem Rep.seq {G : Gr} {w : Wo} {st : Sto} {H : Hp} {v : V} {d : D} {ds : List D} (r : Rep G.K w H v d) (rs : RSt G.K G.T w st H) (h : seqOf st d = some ds) : ∃ p ys, v = .ref p ∧ (SqL G.K H p ys ∨ SqT G.K H p ys) ∧ Reps G.K w H ys ds := by
  cases r with
  | non => cases h
  | bl b => cases h
  | int i => cases h
  | str x => cases h
  | lst f q => cases h; exact ⟨_, _, rfl, .inl f.sq, q⟩
  | tup f q => cases h; exact ⟨_, _, rfl, .inr f.sq, q⟩
  | cel f =>
    rename_i a n
    obtain ⟨c, hc, xs, ex, q⟩ := rs.at f
    have h' : (st[n]?).map Cell.get = some ds := h
    rw [hc] at h'
    cases h'
    exact ⟨a, xs, rfl, .inl (SqL.of ex), q⟩
  | scr f => cases h; exact ⟨_, _, rfl, .inl f.sq, Reps.of_ints _⟩
  | dic _ _ => cases h
  | fn _ _ _ => cases h
/-- only lists that are changed by themselves -/
def lstOf (st : Sto) : D → Option (List D)
  | .lst ds => some ds
  | .cel n => (st[n]?).map Cell.get
  | _ => none
theorem Rep.lstAt {G : Gr} {w : Wo} {st : Sto} {H : Hp} {v : V} {d : D} {ds : List D} (r : Rep G.K w H v d) (rs : RSt G.K G.T w st H) (h : lstOf st d = some ds) : ∃ p ys, v = .ref p ∧ H p = some (.lst ys) ∧ Reps G.K w H ys ds := by
  cases r with
  | non => cases h
  | bl b => cases h
  | int i => cases h
  | str x => cases h
  | lst f q => cases h; exact ⟨_, _, rfl, f.1, q⟩
  | tup f q => cases h
  | cel f =>
    rename_i a n
    obtain ⟨c, hc, xs, ex, q⟩ := rs.at f
    have h' : (st[n]?).map Cell.get = some ds := h
    rw [hc] at h'
    cases h'
    exact ⟨a, xs, rfl, ex, q⟩
  | scr f => cases h
  | dic _ _ => cases h
  | fn _ _ _ => cases h

/-! ### argument lists, displays -/
section
variable {X : Cx} {G : Gr} {W : WX} {a b e : Expr} {es : List Expr} {ma mb me : EM D} {mr : EM (List D)} {pos : Pos}
def aNil : EM (List D) := fun _ st => .ok [] st
def aCons (m : EM D) (mr : EM (List D)) : EM (List D) := fun env st => bnd (m env st) fun d st => bnd (mr env st) fun ds st => .ok (d :: ds) st
theorem da_nil : PA X [] (dA G W aNil) := PA.imp pa_nil fun σ H Q ⟨w, env, st, rs, re, h⟩ => h.now rs .nil
theorem da_cons (ha : PE X e (dE G W me)) (hr : PA X es (dA G W mr)) (hs : starEach (e :: es) X.env = (false, eval e X.env) :: starEach es X.env := by rfl) : PA X (e :: es) (dA G W (aCons me mr)) :=
  PA.imp (pa_cons ha hr hs) fun σ H Q ⟨w, env, st, rs, re, h⟩ => by
    refine ⟨w, env, st, rs, re, Fit.bind h fun d st1 w1 H1 v rs1 e1 rv h1 => ?_⟩
    refine ⟨w1, env, st1, rs1, re.ext e1, Fit.bind h1 fun ds st2 w2 H2 vs rs2 e2 rvs h2 => ?_⟩
    exact h2.now rs2 (.cons (rv.ext e2) rvs)
/-- a limit of every length here -/
def short (ds : List D) : Bool := decide (ds.length ≤ 100000)
theorem short_of {ds : List D} (h : short ds = true) : ds.length ≤ sizeLine := Nat.le_trans (of_decide_eq_true h) (by rw [sizeLine_eq]; omega)
def eTup (mr : EM (List D)) : EM D := fun env st => bnd (mr env st) fun ds st => if short ds then .ok (.tup ds) st else .bad
def eLst (mr : EM (List D)) : EM D := fun env st => bnd (mr env st) fun ds st => if short ds then .ok (.lst ds) st else .bad
/-- a list that will be changed -/
def eCel (mr : EM (List D)) : EM D := fun env st => bnd (mr env st) fun ds st => if short ds then .ok (.cel st.length) (st ++ [.lst ds]) else .bad
theorem de_tup {x1} (h : PA X es (dA G W mr)) : PE X (.Tuple es x1 pos) (dE G W (eTup mr)) := PE.imp (pe_tup h) fun σ H Q ⟨w, env, st, rs, re, h⟩ => by
  refine ⟨w, env, st, rs, re, Fit.bind h fun ds st1 w1 H1 vs rs1 e1 rv h1 => ?_⟩
  by_cases hs : short ds
  · rw [if_pos hs] at h1
    refine ⟨by rw [rv.length]; exact short_of hs, fun p hp => ?_⟩
    obtain ⟨q1, q2, q3⟩ := rs1.newT hp rv
    exact h1 _ _ _ q1 q2 q3
  · rw [if_neg hs] at h1
    exact h1.elim
theorem de_lst (h : PA X es (dA G W mr)) : PE X (.List es pos) (dE G W (eLst mr)) := PE.imp (pe_lst h) fun σ H Q ⟨w, env, st, rs, re, h⟩ => by
  refine ⟨w, env, st, rs, re, Fit.bind h fun ds st1 w1 H1 vs rs1 e1 rv h1 => ?_⟩
  by_cases hs : short ds
  · rw [if_pos hs] at h1
    refine ⟨by rw [rv.length]; exact short_of hs, fun p hp => ?_⟩
    obtain ⟨q1, q2, q3⟩ := rs1.newL hp rv
    exact h1 _ _ _ q1 q2 q3
  · rw [if_neg hs] at h1
    exact h1.elim
theorem de_cel (h : PA X es (dA G W mr)) : PE X (.List es pos) (dE G W (eCel mr)) := PE.imp (pe_lst h) fun σ H Q ⟨w, env, st, rs, re, h⟩ => by
  refine ⟨w, env, st, rs, re, Fit.bind h fun ds st1 w1 H1 vs rs1 e1 rv h1 => ?_⟩
  by_cases hs : short ds
  · rw [if_pos hs] at h1
    refine ⟨by rw [rv.length]; exact short_of hs, fun p hp => ?_⟩
    obtain ⟨q1, q2, q3⟩ := rs1.newC hp rv
    exact h1 _ _ _ q1 q2 q3
  · rw [if_neg hs] at h1
    exact h1.elim
/-- what is read is data from now on -/
def fzD (d : D) (st : Sto) : Out D := match d with
  | .cel n => (match st[n]? with
    | some (.lst ds) => .ok (.lst ds) (st.set n (.fz ds))
    | some (.fz ds) => .ok (.lst ds) st
    | none => .bad)
  | d => .ok d st
def eFz (m : EM D) : EM D := fun env st => bnd (m env st) fzD
theorem fit_fz {w : Wo} {H : Hp} {st : Sto} {d : D} {v : V} {Q : VK} {E : XK} (rs : RSt G.K G.T w st H) (r : Rep G.K w H v d) (h : FitD G w H Q E (fzD d st)) : Q v H := by
  cases r with
  | cel f =>
    rename_i x n
    obtain ⟨c, hc, _⟩ := rs.at f
    unfold fzD at h
    dsimp only at h
    rw [hc] at h
    cases c with
    | lst ds =>
      obtain ⟨q1, q2, q3⟩ := rs.freeze f hc
      exact h _ _ _ q1 q2 q3
    | fz ds => exact h _ _ _ rs (Ext.refl w H) (rs.frozen f hc)
  | non => exact h _ _ _ rs (Ext.refl w H) .non
  | bl b => exact h _ _ _ rs (Ext.refl w H) (.bl b)
  | int i => exact h _ _ _ rs (Ext.refl w H) (.int i)
  | str x => exact h _ _ _ rs (Ext.refl w H) (.str x)
  | lst f q => exact h _ _ _ rs (Ext.refl w H) (.lst f q)
  | tup f q => exact h _ _ _ rs (Ext.refl w H) (.tup f q)
  | scr f => exact h _ _ _ rs (Ext.refl w H) (.scr f)
  | dic f n => exact h _ _ _ rs (Ext.refl w H) (.dic f n)
  | fn f n e => exact h _ _ _ rs (Ext.refl w H) (.fn f n e)
theorem de_fz (h : PE X e (dE G W me)) : PE X e (dE G W (eFz me)) := PE.imp h fun σ H Q ⟨w, env, st, rs, re, h⟩ =>
  ⟨w, env, st, rs, re, Fit.bind h fun d st1 w1 H1 v rs1 e1 rv h1 => fit_fz rs1 rv h1⟩

/-! ### tests -/
def toB (d : D) (st : Sto) : Out Bool := match d with
  | .bl b => .ok b st
  | _ => .bad
def tOf (m : EM D) : EM Bool := fun env st => bnd (m env st) toB
theorem fit_tOf {w : Wo} {H : Hp} {st : Sto} {d : D} {v : V} {Q : Bool → Hp → Prop} {E : XK} (rs : RSt G.K G.T w st H) (r : Rep G.K w H v d) (h : FitB G w H Q E (toB d st)) : ∃ c, v = .bl c ∧ Q c H := by
  cases r with
  | bl b => exact ⟨b, rfl, h _ _ _ rs (Ext.refl w H) rfl⟩
  | _ => exact h.elim
theorem dt_val (h : PE X e (dE G W me)) (he : ∀ whole, isTrue e X.env whole = (do let v ← whole; standAt e.pos; holding [v] (truthy v)) := by intro _; rfl) : PT X e (dT G W (tOf me)) := PT.imp (pt_val h he) fun σ H Q ⟨w, env, st, rs, re, h⟩ =>
  ⟨w, env, st, rs, re, Fit.bind h fun d st1 w1 H1 v rs1 e1 rv h1 => fit_tOf rs1 rv h1⟩
theorem dt_cmp {op : CmpOp} {r : R2} {f : D → D → Sto → Out D} (ho : OpR X (compareOp op) r) (hr : OpS X G r f) (hc : ∀ x y st, Calm (f x y st)) (ha : PE X a (dE G W ma)) (hb : PE X b (dE G W mb)) (hm : behindInMarks op b = false) :
    PT X (.Compare a [op] [b] pos) (dT G W (tOf (eOp f ma mb))) := PT.imp (pt_cmpR ho ha hb hm) fun σ H Q ⟨w, env, st, rs, re, h⟩ => by
  refine dop hr hc ⟨w, env, st, rs, re, Fit.bind h fun d st1 w1 H1 v rs1 e1 rv h1 => ?_⟩
  exact fit_tOf rs1 rv h1
def bAnd (mt mu : EM Bool) : EM Bool := fun env st => bnd (mt env st) fun c st => if c then mu env st else .ok false st
def bOr (mt mu : EM Bool) : EM Bool := fun env st => bnd (mt env st) fun c st => if c then .ok true st else mu env st
def bNot (mt : EM Bool) : EM Bool := fun env st => bnd (mt env st) fun c st => .ok (!c) st
variable {mt mu : EM Bool}
theorem dand {σ : L2.St} {H : Hp} {Q : Bool → Hp → Prop} (h : dT G W (bAnd mt mu) σ H Q) : tAnd (dT G W mt) (dT G W mu) σ H Q := by
  obtain ⟨w, env, st, rs, re, h⟩ := h
  refine ⟨w, env, st, rs, re, Fit.bind h fun c st1 w1 H1 v rs1 e1 rv h1 => ?_⟩
  subst rv
  cases v with
  | true => exact ⟨w1, env, st1, rs1, re.ext e1, h1⟩
  | false => exact h1 _ _ _ rs1 (Ext.refl _ _) rfl
theorem dor {σ : L2.St} {H : Hp} {Q : Bool → Hp → Prop} (h : dT G W (bOr mt mu) σ H Q) : tOr (dT G W mt) (dT G W mu) σ H Q := by
  obtain ⟨w, env, st, rs, re, h⟩ := h
  refine ⟨w, env, st, rs, re, Fit.bind h fun c st1 w1 H1 v rs1 e1 rv h1 => ?_⟩
  subst rv
  cases v with
  | true => exact h1 _ _ _ rs1 (Ext.refl _ _) rfl
  | false => exact ⟨w1, env, st1, rs1, re.ext e1, h1⟩
theorem dnot {σ : L2.St} {H : Hp} {Q : Bool → Hp → Prop} (h : dT G W (bNot mt) σ H Q) : tNot (dT G W mt) σ H Q := by
  obtain ⟨w, env, st, rs, re, h⟩ := h
  refine ⟨w, env, st, rs, re, Fit.bind h fun c st1 w1 H1 v rs1 e1 rv h1 => ?_⟩
  subst rv
  exact h1 _ _ _ rs1 (Ext.refl _ _) rfl
def eIf (mt : EM Bool) (ma mb : EM D) : EM D := fun env st => bnd (mt env st) fun c st => if c then ma env st else mb env st
theorem dif {σ : L2.St} {H : Hp} {Q : VK} (h : dE G W (eIf mt ma mb) σ H Q) : tIf (dT G W mt) (dE G W ma) (dE G W mb) σ H Q := by
  obtain ⟨w, env, st, rs, re, h⟩ := h
  refine ⟨w, env, st, rs, re, Fit.bind h fun c st1 w1 H1 v rs1 e1 rv h1 => ?_⟩
  subst rv
  cases v with
  | true => exact ⟨w1, env, st1, rs1, re.ext e1, h1⟩
  | false => exact ⟨w1, env, st1, rs1, re.ext e1, h1⟩
def eAnd (ma mb : EM D) : EM D := fun env st => bnd (ma env st) fun d st => match d with
  | .bl c => if c then mb env st else .ok (.bl false) st
  | _ => .bad
def eOr (ma mb : EM D) : EM D := fun env st => bnd (ma env st) fun d st => match d with
  | .bl c => if c then .ok (.bl true) st else mb env st
  | _ => .bad
def eNot (ma : EM D) : EM D := fun env st => bnd (ma env st) fun d st => match d with
  | .bl c => .ok (.bl (!c)) st
  | _ => .bad
theorem dandV {σ : L2.St} {H : Hp} {Q : VK} (h : dE G W (eAnd ma mb) σ H Q) : tAndV (dE G W ma) (dE G W mb) σ H Q := by
  obtain ⟨w, env, st, rs, re, h⟩ := h
  refine ⟨w, env, st, rs, re, Fit.bind h fun d st1 w1 H1 v rs1 e1 rv h1 => ?_⟩
  cases rv with
  | bl c =>
    refine ⟨c, rfl, ?_⟩
    cases c with
    | true => exact ⟨w1, env, st1, rs1, re.ext e1, h1⟩
    | false => exact h1 _ _ _ rs1 (Ext.refl _ _) (.bl false)
  | _ => exact h1.elim
theorem dorV {σ : L2.St} {H : Hp} {Q : VK} (h : dE G W (eOr ma mb) σ H Q) : tOrV (dE G W ma) (dE G W mb) σ H Q := by
  obtain ⟨w, env, st, rs, re, h⟩ := h
  refine ⟨w, env, st, rs, re, Fit.bind h fun d st1 w1 H1 v rs1 e1 rv h1 => ?_⟩
  cases rv with
  | bl c =>
    refine ⟨c, rfl, ?_⟩
    cases c with
    | true => exact h1 _ _ _ rs1 (Ext.refl _ _) (.bl true)
    | false => exact ⟨w1, env, st1, rs1, re.ext e1, h1⟩
  | _ => exact h1.elim
theorem dnotV {σ : L2.St} {H : Hp} {Q : VK} (h : dE G W (eNot ma) σ H Q) : tNotV (dE G W ma) σ H Q := by
  obtain ⟨w, env, st, rs, re, h⟩ := h
  refine ⟨w, env, st, rs, re, Fit.bind h fun d st1 w1 H1 v rs1 e1 rv h1 => ?_⟩
  cases rv with
  | bl c => exact ⟨c, rfl, h1 _ _ _ rs1 (Ext.refl _ _) (.bl _)⟩
  | _ => exact h1.elim
end
end DL

set_option Elab.async false
set_option linter.all false
set_option maxRecDepth 100000
set_option maxHeartbeats 2000000
namespace DL
open PySem PySem.Spec PyProof.Rows L2

section
variable {X : Cx} {G : Gr} {W : WX} {a b c e : Expr} {es rest : List Expr} {ma mb me : EM D} {mt mu : EM Bool} {mr : EM (List D)} {pos : Pos}
theorem dw_and1 (h : PT X a (dT G W mt)) : PW X (.BoolOp .And [a] pos) (dT G W mt) := pw_and1 h
theorem dw_or1 (h : PT X a (dT G W mt)) : PW X (.BoolOp .Or [a] pos) (dT G W mt) := pw_or1 h
theorem dw_and (h : PT X a (dT G W mt)) (hb : PW X (.BoolOp .And (b :: rest) pos) (dT G W mu)) : PW X (.BoolOp .And (a :: b :: rest) pos) (dT G W (bAnd mt mu)) := PW.imp (pw_and h hb) fun _ _ _ q => dand q
theorem dw_or (h : PT X a (dT G W mt)) (hb : PW X (.BoolOp .Or (b :: rest) pos) (dT G W mu)) : PW X (.BoolOp .Or (a :: b :: rest) pos) (dT G W (bOr mt mu)) := PW.imp (pw_or h hb) fun _ _ _ q => dor q
theorem dt_w (h : PW X a (dT G W mt)) : PT X a (dT G W mt) := h.pt
theorem dt_not (h : PT X a (dT G W mt)) : PT X (.UnaryOp .Not a pos) (dT G W (bNot mt)) := PT.imp (pt_not h) fun _ _ _ q => dnot q
theorem de_one {op} (h : PE X a (dE G W ma)) : PE X (.BoolOp op [a] pos) (dE G W ma) := pe_one h
theorem de_and (h : PE X a (dE G W ma)) (hb : PE X (.BoolOp .And (b :: rest) pos) (dE G W mb)) : PE X (.BoolOp .And (a :: b :: rest) pos) (dE G W (eAnd ma mb)) := PE.imp (pe_and h hb) fun _ _ _ q => dandV q
theorem de_or (h : PE X a (dE G W ma)) (hb : PE X (.BoolOp .Or (b :: rest) pos) (dE G W mb)) : PE X (.BoolOp .Or (a :: b :: rest) pos) (dE G W (eOr ma mb)) := PE.imp (pe_or h hb) fun _ _ _ q => dorV q
theorem de_not (h : PE X a (dE G W ma)) : PE X (.UnaryOp .Not a pos) (dE G W (eNot ma)) := PE.imp (pe_not h) fun _ _ _ q => dnotV q
theorem de_if (hc : PT X c (dT G W mt)) (ha : PE X a (dE G W ma)) (hb : PE X b (dE G W mb)) : PE X (.IfExp c a b pos) (dE G W (eIf mt ma mb)) := PE.imp (pe_ifExp hc ha hb) fun _ _ _ q => dif q

/-! ### calls by values -/
/-- a built-in's call: what it makes of the data -/
def CallS (G : Gr) (r : List V → Hp → VK → Prop) (f : List D → Sto → Out D) : Prop :=
  ∀ (w : Wo) (st : Sto) (H : Hp) (xs : List V) (ds : List D) (Q : VK), RSt G.K G.T w st H → Reps G.K w H xs ds → FitD G w H Q E0 (f ds st) → r xs H Q
def eCB (f : List D → Sto → Out D) (mr : EM (List D)) : EM D := fun env st => bnd (mr env st) f
theorem dcb {r : List V → Hp → VK → Prop} {f : List D → Sto → Out D} (hr : CallS G r f) (hc : ∀ x st, Calm (f x st)) {σ : L2.St} {H : Hp} {Q : VK} (h : dE G W (eCB f mr) σ H Q) : tCB r (dA G W mr) σ H Q := by
  obtain ⟨w, env, st, rs, re, h⟩ := h
  refine ⟨w, env, st, rs, re, Fit.bind h fun ds st1 w1 H1 vs rs1 e1 rv h1 => ?_⟩
  exact hr w1 st1 H1 vs ds Q rs1 rv (fit_calm h1 (hc _ _))
theorem de_callB {x : Str} {p : Pos} {id : String} {r : List V → Hp → VK → Prop} {f : List D → Sto → Out D} (hc : CallR X (.builtin id) r) (hr : CallS G r f) (hk : ∀ x st, Calm (f x st)) (hg : Gl X x) (hm : X.mg x = none) (hv : bootBuiltins x = some (.builtin id)) (ha : PA X (e :: es) (dA G W mr)) (hn : x ≠ "__name__" := by decide) (hdb : (x == ("__debug__" : Str)) = false := by decide)
    (he : starEach (e :: es) X.env = (false, eval e X.env) :: starEach es X.env := by rfl) (hpl : (backTo pos (starEach es X.env)).any (·.1) = false := by rfl) : PE X (.Call (.Name x p) (e :: es) [] pos) (dE G W (eCB f mr)) :=
  PE.imp (pe_callB hc hg hm hv ha hn hdb he hpl) fun _ _ _ q => dcb hr hk q
theorem de_callTy {x : Str} {p : Pos} {T : String} {r : List V → Hp → VK → Prop} {f : List D → Sto → Out D} (hc : CallR X (.type T) r) (hr : CallS G r f) (hk : ∀ x st, Calm (f x st)) (hg : Gl X x) (hm : X.mg x = none) (hv : bootBuiltins x = some (.type T)) (ha : PA X (e :: es) (dA G W mr)) (hn : x ≠ "__name__" := by decide) (hdb : (x == ("__debug__" : Str)) = false := by decide)
    (he : starEach (e :: es) X.env = (false, eval e X.env) :: starEach es X.env := by rfl) (hpl : (backTo pos (starEach es X.env)).any (·.1) = false := by rfl) : PE X (.Call (.Name x p) (e :: es) [] pos) (dE G W (eCB f mr)) :=
  PE.imp (pe_callTy hc hg hm hv ha hn hdb he hpl) fun _ _ _ q => dcb hr hk q
/-- a subscript -/
theorem de_ix {r : R2} {f : D → D → Sto → Out D} (hr : IxR X r) (hs : OpS X G r f) (hc : ∀ x y st, Calm (f x y st)) (ha : PE X a (dE G W ma)) (hb : PE X b (dE G W mb)) (hp : PlainIx b := by exact fun _ _ => rfl) : PE X (.Subscript a b pos) (dE G W (eOp f ma mb)) :=
  PE.imp (pe_ix hr ha hb hp) fun _ _ _ q => dop hs hc q
/-- a method of a built-in type -/
def MetS (G : Gr) (T : String) (r : V → List V → Hp → VK → Prop) (f : D → List D → Sto → Out D) : Prop :=
  ∀ (w : Wo) (st : Sto) (H : Hp) (x : V) (dx : D) (xs : List V) (ds : List D) (Q : VK), RSt G.K G.T w st H → Rep G.K w H x dx → Reps G.K w H xs ds → FitD G w H Q E0 (f dx ds st) → r x xs H Q
/-- the receiver is of the type -/
def TyS (G : Gr) (T : String) (g : D → Sto → Bool) : Prop := ∀ (w : Wo) (st : Sto) (H : Hp) (x : V) (dx : D), RSt G.K G.T w st H → Rep G.K w H x dx → g dx st = true → tyV G.K T x H
def eBM (g : D → Sto → Bool) (f : D → List D → Sto → Out D) (mo : EM D) (mr : EM (List D)) : EM D := fun env st => bnd (mo env st) fun d st => if g d st then bnd (mr env st) fun ds st => f d ds st else .bad
theorem dbm {T : String} {r : V → List V → Hp → VK → Prop} {g : D → Sto → Bool} {f : D → List D → Sto → Out D} (hg : TyS G T g) (hr : MetS G T r f) (hc : ∀ x ds st, Calm (f x ds st)) {σ : L2.St} {H : Hp} {Q : VK} (h : dE G W (eBM g f ma mr) σ H Q) : tBM G.K T r (dE G W ma) (dA G W mr) σ H Q := by
  obtain ⟨w, env, st, rs, re, h⟩ := h
  refine ⟨w, env, st, rs, re, Fit.bind h fun d st1 w1 H1 x rs1 e1 rx h1 => ?_⟩
  by_cases hd : g d st1 = true
  · rw [if_pos hd] at h1
    refine ⟨hg w1 st1 H1 x d rs1 rx hd, w1, env, st1, rs1, re.ext e1, Fit.bind h1 fun ds st2 w2 H2 vs rs2 e2 rv h2 => ?_⟩
    exact hr w2 st2 H2 x d vs ds Q rs2 (rx.ext e2) rv (fit_calm h2 (hc _ _ _))
  · rw [if_neg hd] at h1
    exact h1.elim
theorem de_bm {o : Expr} {name : Str} {apos cpos : Pos} {T id : String} {r : V → List V → Hp → VK → Prop} {g : D → Sto → Bool} {f : D → List D → Sto → Out D} (hK : G.K = X.K) (pa : PlainAttrs T) (slot : Slot T name id) (hty : typeOf (.builtin id) = pure (.type "method_descriptor")) (hm : MtR X id r) (hg : TyS G T g) (hr : MetS G T r f) (hc : ∀ x ds st, Calm (f x ds st))
    (ho : PE X o (dE G W ma)) (ha : PA X (e :: es) (dA G W mr))
    (hbase : attributeBase o name X.env (eval o X.env) = eval o X.env := by rfl)
    (hfew : ((backTo cpos (starEach (e :: es) X.env)).all (fun x => !x.1) && (backToKw cpos (keywordEach [] X.env)).all (fun x => x.1.isSome)
      && decide ((e :: es).length + ([] : List Keyword).length + (if ([] : List Keyword).isEmpty then 0 else 1) < 30)) = true := by rfl)
    (hline : (apos.endLine == cpos.line) = true := by rfl) (hs : starEach (e :: es) X.env = (false, eval e X.env) :: starEach es X.env := by rfl) (hplain : (backTo cpos (starEach es X.env)).any (·.1) = false := by rfl) :
    PE X (.Call (.Attribute o name apos) (e :: es) [] cpos) (dE G W (eBM g f ma mr)) := by
  refine PE.imp (pe_bm pa slot hty hm ho ha hbase hfew hline hs hplain) fun _ _ _ q => ?_
  rw [← hK]
  exact dbm hg hr hc q

/-! ### a def of the program -/
def spM (G : Gr) (n : Nat) (m : List D → Sto → Out D) : Sp := fun vs H Q E => vs.length = n ∧ ∃ w ds st, RSt G.K G.T w st H ∧ Reps G.K w H vs ds ∧ FitD G w H Q E (m ds st)
def eCall (n : Nat) (m : List D → Sto → Out D) (mr : EM (List D)) : EM D := fun env st => bnd (mr env st) fun ds st => if ds.length = n then m ds st else .bad
theorem dcall {n : Nat} {m : List D → Sto → Out D} {σ : L2.St} {H : Hp} {Q : VK} (h : dE G W (eCall n m mr) σ H Q) : tCallS (spM G n m) (WE W) (dA G W mr) σ H Q := by
  obtain ⟨w, env, st, rs, re, h⟩ := h
  refine ⟨w, env, st, rs, re, Fit.bind h fun ds st1 w1 H1 vs rs1 e1 rv h1 => ?_⟩
  by_cases hl : ds.length = n
  · rw [if_pos hl] at h1
    exact ⟨by rw [rv.length]; exact hl, w1, ds, st1, rs1, rv, h1⟩
  · rw [if_neg hl] at h1
    exact h1.elim
theorem de_call {n k : Nat} {m : List D → Sto → Out D} {f : Addr} {fd : FuncData} {ps : List Str} {x : Str} {p : Pos} (F : FnOk X.prog X.w X.K X.mg X.base (L2.CX X.prog X.w) k f fd ps (spM G n m)) (hr : Room k X.A) (hg : Gl X x) (hm : X.mg x = some (.ref f)) (hk : PySem.W.keepIn X.K (.ref f) = true) (hb : Binds X.K fd ps [])
    (tk : Takes X W) (ha : PA X (e :: es) (dA G W mr)) (hdb : (x == ("__debug__" : Str)) = false := by decide) (he : starEach (e :: es) X.env = (false, eval e X.env) :: starEach es X.env := by rfl) (hpl : (backTo pos (starEach es X.env)).any (·.1) = false := by rfl) :
    PE X (.Call (.Name x p) (e :: es) [] pos) (dE G W (eCall n m mr)) := PE.imp (pe_callS F hr hg hm hk hb (fun σ => passAt tk σ) ha hdb he hpl) fun _ _ _ q => dcall q
end

/-! ### statements -/
inductive OutS where
  | nx (env : Env') (st : Sto) | rt (d : D) (st : Sto) | bk (env : Env') (st : Sto) | ct (env : Env') (st : Sto) | err (c : Str) (fs : List (Str × D)) (env : Env') (st : Sto) | bad
abbrev SM := Env' → Sto → OutS
def FitS (G : Gr) (w : Wo) (H : Hp) (D : Ends) (W : WX) : OutS → Prop
  | .nx env' st' => ∀ w' H' σ', RSt G.K G.T w' st' H' → Ext w H w' H' → REnv G.K w' H' env' σ' → D.nx σ' H'
  | .bk env' st' => ∀ w' H' σ', RSt G.K G.T w' st' H' → Ext w H w' H' → REnv G.K w' H' env' σ' → D.bk σ' H'
  | .ct env' st' => ∀ w' H' σ', RSt G.K G.T w' st' H' → Ext w H w' H' → REnv G.K w' H' env' σ' → D.ct σ' H'
  | .rt d st' => ∀ w' H' v, RSt G.K G.T w' st' H' → Ext w H w' H' → Rep G.K w' H' v d → D.rt v H'
  | .err c fs env' st' => ∀ w' H' σ' cls dx, RSt G.K G.T w' st' H' → Ext w H w' H' → REnv G.K w' H' env' σ' → ExcOk G.K G.mg w' H' c fs cls dx → W cls dx σ' H'
  | .bad => False
theorem FitS.ext {G : Gr} {w w' : Wo} {H H' : Hp} {D : Ends} {W : WX} {x : OutS} (h : FitS G w H D W x) (e : Ext w H w' H') : FitS G w' H' D W x := by
  cases x with
  | nx env st => exact fun w2 H2 σ rs e2 r => h w2 H2 σ rs (e.trans e2) r
  | bk env st => exact fun w2 H2 σ rs e2 r => h w2 H2 σ rs (e.trans e2) r
  | ct env st => exact fun w2 H2 σ rs e2 r => h w2 H2 σ rs (e.trans e2) r
  | rt d st => exact fun w2 H2 v rs e2 r => h w2 H2 v rs (e.trans e2) r
  | err c fs env st => exact fun w2 H2 σ cls dx rs e2 r x => h w2 H2 σ cls dx rs (e.trans e2) r x
  | bad => exact h
def dS (G : Gr) (W : WX) (m : SM) : TS := fun D σ H => ∃ w env st, RSt G.K G.T w st H ∧ REnv G.K w H env σ ∧ FitS G w H D W (m env st)
/-- an expression's outcome, then a statement's -/
def bndS {α : Type} (env : Env') (x : Out α) (f : α → Sto → OutS) : OutS := match x with
  | .ok a st => f a st
  | .err c fs st => .err c fs env st
  | .bad => .bad
@[simp] theorem bndS_ok {α : Type} (env : Env') (a : α) (st : Sto) (f : α → Sto → OutS) : bndS env (.ok a st) f = f a st := rfl
@[simp] theorem bndS_err {α : Type} (env : Env') (c : Str) (fs : List (Str × D)) (st : Sto) (f : α → Sto → OutS) : bndS env (.err c fs st) f = .err c fs env st := rfl
@[simp] theorem bndS_bad {α : Type} (env : Env') (f : α → Sto → OutS) : bndS env (.bad) f = .bad := rfl
theorem FitS.bind {α β : Type} {G : Gr} {R : Wo → Hp → β → α → Prop} {w : Wo} {H : Hp} {Dn : Ends} {W : WX} {Q1 : β → Hp → Prop} {env : Env'} {σ : L2.St} {x : Out α} {f : α → Sto → OutS} (re : REnv G.K w H env σ) (h : FitS G w H Dn W (bndS env x f))
    (k : ∀ d st' w' H' v, RSt G.K G.T w' st' H' → Ext w H w' H' → R w' H' v d → FitS G w' H' Dn W (f d st') → Q1 v H') : Fit G R w H Q1 (fun c d H' => W c d σ H') x := by
  cases x with
  | ok d st' =>
    intro w' H' v rs e r
    exact k d st' w' H' v rs e r (FitS.ext (x := f d st') h e)
  | err c fs st' => exact fun w' H' cls dx rs e q => h w' H' σ cls dx rs e (re.ext e) q
  | bad => exact h

section
variable {X : Cx} {G : Gr} {W : WX} {a b c e : Expr} {es rest : List Expr} {ma mb me : EM D} {mt mu : EM Bool} {mr : EM (List D)} {pos : Pos} {s1 : Stmt} {ss : List Stmt} {m1 m2 : SM}
def sSeq (m1 m2 : SM) : SM := fun env st => match m1 env st with
  | .nx env' st' => m2 env' st'
  | o => o
def sNx : SM := fun env st => .nx env st
theorem dss_nil : PSs X [] (dS G W sNx) := PSs.imp pss_nil fun Dn σ H ⟨w, env, st, rs, re, h⟩ => h w H σ rs (Ext.refl _ _) re
theorem dss_one (h : PS X s1 (dS G W m1)) : PSs X [s1] (dS G W m1) := pss_one h
theorem dss_cons (h : PS X s1 (dS G W m1)) (h2 : PSs X ss (dS G W m2)) : PSs X (s1 :: ss) (dS G W (sSeq m1 m2)) := PSs.imp (pss_cons h h2) fun Dn σ H ⟨w, env, st, rs, re, h⟩ => by
  refine ⟨w, env, st, rs, re, ?_⟩
  unfold sSeq at h
  cases q : m1 env st with
  | nx env1 st1 =>
    rw [q] at h
    exact fun w1 H1 σ1 rs1 e1 re1 => ⟨w1, env1, st1, rs1, re1, FitS.ext (x := m2 env1 st1) h e1⟩
  | bk env1 st1 => rw [q] at h; exact h
  | ct env1 st1 => rw [q] at h; exact h
  | rt d st1 => rw [q] at h; exact h
  | err c fs env1 st1 => rw [q] at h; exact h
  | bad => rw [q] at h; exact h
def sIf (mt : EM Bool) (m1 m2 : SM) : SM := fun env st => bndS env (mt env st) fun c st => if c then m1 env st else m2 env st
theorem ds_if {as bs : List Stmt} (hc : PT X c (dT G W mt)) (ha : PSs X as (dS G W m1)) (hb : PSs X bs (dS G W m2)) : PS X (.If c as bs pos) (dS G W (sIf mt m1 m2)) := PS.imp (ps_if hc ha hb) fun Dn σ H ⟨w, env, st, rs, re, h⟩ => by
  refine ⟨w, env, st, rs, re, FitS.bind re h fun d st1 w1 H1 v rs1 e1 rv h1 => ?_⟩
  subst rv
  cases v with
  | true => exact ⟨w1, env, st1, rs1, re.ext e1, h1⟩
  | false => exact ⟨w1, env, st1, rs1, re.ext e1, h1⟩
def sRet (me : EM D) : SM := fun env st => bndS env (me env st) fun d st => .rt d st
theorem ds_ret (h : PE X e (dE G W me)) : PS X (.Return (some e) pos) (dS G W (sRet me)) := PS.imp (ps_ret h) fun Dn σ H ⟨w, env, st, rs, re, h⟩ =>
  ⟨w, env, st, rs, re, FitS.bind re h fun d st1 w1 H1 v rs1 e1 rv h1 => h1 w1 H1 v rs1 (Ext.refl _ _) rv⟩
def sExp (me : EM D) : SM := fun env st => bndS env (me env st) fun _ st => .nx env st
theorem ds_exp (h : PE X e (dE G W me)) (hs : swapsWith e none pos.line X.env = pure false := by rfl) : PS X (.Expr e pos) (dS G W (sExp me)) := PS.imp (ps_expr h hs) fun Dn σ H ⟨w, env, st, rs, re, h⟩ =>
  ⟨w, env, st, rs, re, FitS.bind re h fun d st1 w1 H1 v rs1 e1 rv h1 => h1 w1 H1 σ rs1 (Ext.refl _ _) (re.ext e1)⟩
theorem ds_pass : PS X (.Pass pos) (dS G W sNx) := PS.imp ps_pass fun Dn σ H ⟨w, env, st, rs, re, h⟩ => h w H σ rs (Ext.refl _ _) re
def sBk : SM := fun env st => .bk env st
def sCt : SM := fun env st => .ct env st
theorem ds_break : PS X (.Break pos) (dS G W sBk) := PS.imp ps_break fun Dn σ H ⟨w, env, st, rs, re, h⟩ => h w H σ rs (Ext.refl _ _) re
theorem ds_continue : PS X (.Continue pos) (dS G W sCt) := PS.imp ps_continue fun Dn σ H ⟨w, env, st, rs, re, h⟩ => h w H σ rs (Ext.refl _ _) re

/-! targets -/
abbrev GM := D → Env' → Sto → Option (Env' × Sto)
def dG (G : Gr) (f : GM) : TG := fun v σ H Q => ∃ w env st d, RSt G.K G.T w st H ∧ REnv G.K w H env σ ∧ Rep G.K w H v d ∧ match f d env st with
  | some (env', st') => ∀ w' H' σ', RSt G.K G.T w' st' H' → Ext w H w' H' → REnv G.K w' H' env' σ' → Q σ' H'
  | none => False
theorem PG.imp {tg : Expr} {t t' : TG} (h : PG X tg t) (i : ∀ v σ H Q, t' v σ H Q → t v σ H Q) : PG X tg t' := ⟨fun pins s σ H v u Q I r q => h.run pins s σ H v u Q I r (i v σ H Q q)⟩
/-- .. that touches the slots vs alone -/
def Fr (vs : List Nat) (σ σ' : L2.St) : Prop := σ'.length = σ.length ∧ ∀ i : Nat, i ∉ vs → σ'[i]? = σ[i]?
theorem Fr.refl {vs : List Nat} {σ : L2.St} : Fr vs σ σ := ⟨rfl, fun _ _ => rfl⟩
theorem Fr.trans {vs us : List Nat} {σ σ1 σ2 : L2.St} (a : Fr vs σ σ1) (b : Fr us σ1 σ2) : Fr (vs ++ us) σ σ2 :=
  ⟨b.1.trans a.1, fun i h => (b.2 i fun z => h (List.mem_append_right _ z)).trans (a.2 i fun z => h (List.mem_append_left _ z))⟩
def dGv (G : Gr) (f : GM) (vs : List Nat) : TG := fun v σ H Q => ∃ w env st d, RSt G.K G.T w st H ∧ REnv G.K w H env σ ∧ Rep G.K w H v d ∧ match f d env st with
  | some (env', st') => ∀ w' H' σ', RSt G.K G.T w' st' H' → Ext w H w' H' → REnv G.K w' H' env' σ' → Fr vs σ σ' → Q σ' H'
  | none => False
theorem dg_of {tg : Expr} {f : GM} {vs : List Nat} (h : PG X tg (dGv G f vs)) : PG X tg (dG G f) := PG.imp h fun v σ H Q ⟨w, env, st, d, rs, re, rv, h⟩ => by
  refine ⟨w, env, st, d, rs, re, rv, ?_⟩
  cases q : f d env st with
  | none => rw [q] at h; exact h
  | some p => rw [q] at h; exact fun w' H' σ' a b c _ => h w' H' σ' a b c
def gN (i : Nat) : GM := fun d env st => some (env.set i (some d), st)
theorem dgv_name {i : Nat} {x : Str} (hN : X.N.Nodup) (hi : X.N[i]? = some x) (hx : Loc X.env.scope x) (hf : X.fn x = true ∨ X.env.scope.names.lookup x = some .local := by first | exact .inl rfl | exact .inr rfl | assumption) : PG X (.Name x pos) (dGv G (gN i) [i]) :=
  PG.imp (pg_name hN hi hx hf) fun v σ H Q ⟨w, env, st, d, rs, re, rv, h⟩ => h w H _ rs (Ext.refl _ _) (re.set i rv) ⟨List.length_set, fun j hj => List.getElem?_set_ne (fun z => hj (by simp [z]))⟩
theorem dg_name {i : Nat} {x : Str} (hN : X.N.Nodup) (hi : X.N[i]? = some x) (hx : Loc X.env.scope x) (hf : X.fn x = true ∨ X.env.scope.names.lookup x = some .local := by first | exact .inl rfl | exact .inr rfl | assumption) : PG X (.Name x pos) (dG G (gN i)) := dg_of (dgv_name hN hi hx hf)
def sAsg (me : EM D) (g : GM) : SM := fun env st => bndS env (me env st) fun d st => match g d env st with
  | some (env', st') => .nx env' st'
  | none => .bad
theorem ds_asg {tg : Expr} {g : GM} (he : PE X e (dE G W me)) (hg : PG X tg (dG G g)) (hs : swapsWithSole [tg] e pos.line X.env = pure false := by rfl) (hw : swappedStores [tg] e X.env = pure none := by rfl) (ha : (assignEach [tg] X.env).map (·.2) = [assign tg X.env] := by rfl) :
    PS X (.Assign [tg] e pos) (dS G W (sAsg me g)) := PS.imp (ps_asg he hg hs hw ha) fun Dn σ H ⟨w, env, st, rs, re, h⟩ => by
  refine ⟨w, env, st, rs, re, FitS.bind re h fun d st1 w1 H1 v rs1 e1 rv h1 => ?_⟩
  refine ⟨w1, env, st1, d, rs1, re.ext e1, rv, ?_⟩
  cases q : g d env st1 with
  | none => rw [q] at h1; exact h1
  | some p => rw [q] at h1; exact h1
end
end DL

set_option Elab.async false
set_option linter.all false
set_option maxRecDepth 100000
set_option maxHeartbeats 2000000
namespace DL
open PySem PySem.Spec PyProof.Rows L2
section
variable {X : Cx} {G : Gr} {W : WX} {a b c e o i : Expr} {es rest : List Expr} {ma mb me mo mi : EM D} {mt mu : EM Bool} {mr : EM (List D)} {pos : Pos} {s1 : Stmt} {ss : List Stmt} {m1 m2 mbd : SM}
/-! ### targets of several names -/
abbrev GsM := List D → Env' → Sto → Option (Env' × Sto)
def dGs (G : Gr) (f : GsM) (us : List Nat) : TGs := fun vs σ H Q => ∃ w env st ds, RSt G.K G.T w st H ∧ REnv G.K w H env σ ∧ Reps G.K w H vs ds ∧ match f ds env st with
  | some (env', st') => ∀ w' H' σ', RSt G.K G.T w' st' H' → Ext w H w' H' → REnv G.K w' H' env' σ' → Fr us σ σ' → Q σ' H'
  | none => False
theorem PGs.imp {tg : List Expr} {t t' : TGs} (h : PGs X tg t) (i : ∀ v σ H Q, t' v σ H Q → t v σ H Q) : PGs X tg t' := ⟨fun pins s σ H v u Q I r q => h.run pins s σ H v u Q I r (i v σ H Q q)⟩
def gsNil : GsM := fun ds env st => match ds with
  | [] => some (env, st)
  | _ => none
def gsCons (g : GM) (gs : GsM) : GsM := fun ds env st => match ds with
  | d :: ds => (match g d env st with
    | some (env', st') => gs ds env' st'
    | none => none)
  | [] => none
theorem dgs_nil : PGs X [] (dGs G gsNil []) := PGs.imp pgs_nil fun vs σ H Q ⟨w, env, st, ds, rs, re, rv, h⟩ => by
  cases rv with
  | nil => exact ⟨rfl, h w H σ rs (Ext.refl _ _) re Fr.refl⟩
  | cons _ _ => exact h.elim
theorem dgs_cons {g : GM} {gs : GsM} {u1 u2 : List Nat} (h1 : PG X e (dGv G g u1)) (h2 : PGs X es (dGs G gs u2)) (hs : (assignEach (e :: es) X.env).map (·.2) = assign e X.env :: (assignEach es X.env).map (·.2) := by rfl) : PGs X (e :: es) (dGs G (gsCons g gs) (u1 ++ u2)) :=
  PGs.imp (pgs_cons h1 h2 hs) fun vs σ H Q ⟨w, env, st, ds, rs, re, rv, h⟩ => by
    cases rv with
    | nil => exact h.elim
    | @cons v vs' d ds' r rr =>
      refine ⟨v, vs', rfl, w, env, st, d, rs, re, r, ?_⟩
      unfold gsCons at h
      dsimp only at h
      cases q : g d env st with
      | none => rw [q] at h; exact h
      | some p =>
        obtain ⟨env1, st1⟩ := p
        rw [q] at h
        dsimp only at h ⊢
        intro w1 H1 σ1 rs1 e1 re1 f1
        refine ⟨w1, env1, st1, ds', rs1, re1, rr.ext e1, ?_⟩
        cases q2 : gs ds' env1 st1 with
        | none => rw [q2] at h; exact h
        | some p2 =>
          rw [q2] at h
          exact fun w2 H2 σ2 rs2 e2 re2 f2 => h w2 H2 σ2 rs2 (e1.trans e2) re2 (f1.trans f2)
def gT (n : Nat) (gs : GsM) : GM := fun d env st => match d with
  | .tup ds => if ds.length = n then gs ds env st else none
  | _ => none
theorem dgv_tup {k n : Nat} {gs : GsM} {us : List Nat} (hK : G.K = X.K) (hc : X.calm = true) (h : PGs X es (dGs G gs us)) (hn : (assignEach es X.env).length = n := by rfl) (hst : (assignEach es X.env).findIdx? (·.1) = none := by rfl) : PG X (.Tuple es k pos) (dGv G (gT n gs) us) :=
  PG.imp (pg_tup hc h hn hst) fun v σ H Q ⟨w, env, st, d, rs, re, rv, h⟩ => by
    cases rv with
    | @tup p xs ds f r =>
      unfold gT at h
      dsimp only at h
      by_cases hl : ds.length = n
      · rw [if_pos hl] at h
        exact ⟨p, xs, rfl, by rw [← hK]; exact f.sq, by rw [r.length]; exact hl, w, env, st, ds, rs, re, r, h⟩
      · rw [if_neg hl] at h
        exact h.elim
    | _ => exact h.elim
theorem dg_tup {k n : Nat} {gs : GsM} {us : List Nat} (hK : G.K = X.K) (hc : X.calm = true) (h : PGs X es (dGs G gs us)) (hn : (assignEach es X.env).length = n := by rfl) (hst : (assignEach es X.env).findIdx? (·.1) = none := by rfl) : PG X (.Tuple es k pos) (dG G (gT n gs)) := dg_of (dgv_tup hK hc h hn hst)
/-- o[i] = ..: a list that may change -/
def putAt (o i v : D) (st : Sto) : Option Sto := match o, i with
  | .cel n, .int k => (match st[n]? with
    | some (.lst ds) => (match ixN ds.length k with
      | some j => some (st.set n (.lst (ds.set j v)))
      | none => none)
    | _ => none)
  | _, _ => none
def gS (mo mi : EM D) : GM := fun d env st => match mo env st with
  | .ok o st => (match mi env st with
    | .ok i st => (match putAt o i d st with
      | some st => some (env, st)
      | none => none)
    | _ => none)
  | _ => none
theorem dg_sub {W : WX} (ho : PE X o (dE G W mo)) (hi : PE X i (dE G W mi)) (ha : ∀ v, assign (.Subscript o i pos) X.env v = (do
      let ov ← holding [v] (eval o X.env)
      let iv ← holding [v, ov] (eval i X.env)
      standAt pos
      holding [v, ov, iv] (setItem ov iv v)
      release [v, ov, iv] []) := by intro _; rfl) : PG X (.Subscript o i pos) (dG G (gS mo mi)) :=
  PG.imp (pg_sub ho hi set_list ha) fun v σ H Q ⟨w, env, st, d, rs, re, rv, h⟩ => by
    unfold gS at h
    refine ⟨w, env, st, rs, re, ?_⟩
    cases q1 : mo env st with
    | ok od st1 =>
      rw [q1] at h
      dsimp only at h
      intro w1 H1 ov rs1 e1 ro
      refine ⟨w1, env, st1, rs1, re.ext e1, ?_⟩
      cases q2 : mi env st1 with
      | ok id st2 =>
        rw [q2] at h
        dsimp only at h
        intro w2 H2 iv rs2 e2 ri
        have ro2 := ro.ext e2
        cases ro2 with
        | cel hn =>
          rename_i p n
          cases ri with
          | int k =>
            unfold putAt at h
            dsimp only at h
            cases q3 : st2[n]? with
            | none => rw [q3] at h; exact h.elim
            | some cl =>
              cases cl with
              | fz ds => rw [q3] at h; exact h.elim
              | lst ds =>
                rw [q3] at h
                dsimp only at h
                cases q4 : ixN ds.length k with
                | none => rw [q4] at h; exact h.elim
                | some j =>
                  rw [q4] at h
                  dsimp only at h
                  obtain ⟨xs, ex, rx⟩ := rs2.cell n p _ hn q3
                  obtain ⟨z1, z2⟩ := rs2.put hn q3 (rx.set (rv.ext (e1.trans e2)) j)
                  have hx : xs.length = ds.length := rx.length
                  exact ⟨p, xs, k, j, rfl, rfl, ex, by rw [hx]; exact q4, h _ _ _ z1 ((e1.trans e2).trans z2) ((re.ext (e1.trans e2)).ext z2)⟩
          | _ => exact h.elim
        | _ => exact h.elim
      | err _ _ _ => rw [q2] at h; exact h.elim
      | bad => rw [q2] at h; exact h.elim
    | err _ _ _ => rw [q1] at h; exact h.elim
    | bad => rw [q1] at h; exact h.elim
/-- a, b = x, y -/
def sPar (k j : Nat) (mr : EM (List D)) : SM := fun env st => bndS env (mr env st) fun ds st => match ds with
  | [x, y] => .nx ((env.set k (some x)).set j (some y)) st
  | _ => .bad
theorem ds_par {k j : Nat} {x y : Str} {px py pt : Pos} {kt k2 pt2} (hc : X.calm = true) (hN : X.N.Nodup) (hi : X.N[k]? = some x) (hj : X.N[j]? = some y) (hij : k ≠ j) (hx : X.env.scope.names.lookup x = some .local) (hy : X.env.scope.names.lookup y = some .local)
    (ha : PA X [a, b] (dA G W mr)) (hw : swappedStores [.Tuple [.Name x px, .Name y py] kt pt] (.Tuple [a, b] k2 pt2) X.env = pure (some [x, y])) (hs : swapsWithSole [.Tuple [.Name x px, .Name y py] kt pt] (.Tuple [a, b] k2 pt2) pos.line X.env = pure false := by rfl) :
    PS X (.Assign [.Tuple [.Name x px, .Name y py] kt pt] (.Tuple [a, b] k2 pt2) pos) (dS G W (sPar k j mr)) := PS.imp (ps_par hc hN hi hj hij hx hy ha hw hs) fun Dn σ H ⟨w, env, st, rs, re, h⟩ => by
  refine ⟨w, env, st, rs, re, FitS.bind re h fun ds st1 w1 H1 vs rs1 e1 rv h1 => ?_⟩
  cases rv with
  | nil => exact h1.elim
  | cons r1 rr =>
    cases rr with
    | nil => exact h1.elim
    | cons r2 r3 =>
      cases r3 with
      | nil => exact ⟨_, _, rfl, h1 _ _ _ rs1 (Ext.refl _ _) (((re.ext e1).set k r1).set j r2)⟩
      | cons _ _ => exact h1.elim

/-! ### loops -/
/-- J hands out the things of ds, one after another -/
def DWalk (G : Gr) (w0 : Wo) (H0 : Hp) (J : It) (ds : List D) : Prop := ∀ (i : Nat) (w : Wo) (H : Hp), Ext w0 H0 w H →
  (∀ d, ds[i]? = some d → J.go i H ∧ ∀ x H', J.yld i H x H' → ∀ st, RSt G.K G.T w st H → RSt G.K G.T w st H' ∧ Ext w H w H' ∧ Rep G.K w H' x d) ∧ (i = ds.length → J.stop i H)
def dI (G : Gr) (W : WX) (m : EM (List D)) : TI := fun σ H R => ∃ w env st, RSt G.K G.T w st H ∧ REnv G.K w H env σ ∧ Fit G (DWalk G) w H R (fun c d H' => W c d σ H') (m env st)
theorem PI.imp {tg iter : Expr} {t t' : TI} (h : PI X tg iter t) (i : ∀ σ H R, t' σ H R → t σ H R) : PI X tg iter t' := ⟨fun pins s σ H R I q => h.run pins s σ H R I (i σ H R q)⟩
def forM (g : GM) (mb : SM) : List D → SM
  | [], env, st => .nx env st
  | d :: ds, env, st => match g d env st with
    | none => .bad
    | some (env', st') => (match mb env' st' with
      | .nx env2 st2 => forM g mb ds env2 st2
      | .ct env2 st2 => forM g mb ds env2 st2
      | .bk env2 st2 => .nx env2 st2
      | o => o)
def sFor (mi : EM (List D)) (g : GM) (mb : SM) : SM := fun env st => bndS env (mi env st) fun ds st => forM g mb ds env st
theorem ds_for {tg iter : Expr} {body : List Stmt} {mi : EM (List D)} {g : GM} (hp : PassesOwn (model X.prog X.w) X.A X.env X.xe) (hc : X.calm = true) (hi : PI X tg iter (dI G W mi)) (hg : PG X tg (dG G g)) (hb : PSs X body (dS G W mbd))
    (hs : ∀ x, foldedSetIterable iter X.env x = pure x := by intro _; rfl) : PS X (.For tg iter body [] pos) (dS G W (sFor mi g mbd)) := PS.imp (ps_for hp hc hi hg hb hs) fun Dn σ H ⟨w, env, st, rs, re, h⟩ => by
  refine ⟨w, env, st, rs, re, FitS.bind re h fun ds st1 w1 H1 J rs1 e1 wk h1 => ?_⟩
  refine ⟨fun i m σ' H' => m = ds.length - i ∧ i ≤ ds.length ∧ ∃ w' env' st', RSt G.K G.T w' st' H' ∧ Ext w1 H1 w' H' ∧ REnv G.K w' H' env' σ' ∧ FitS G w' H' Dn W (forM g mbd (ds.drop i) env' st'),
    ⟨ds.length, by simp, Nat.zero_le _, w1, env, st1, rs1, Ext.refl _ _, re.ext e1, h1⟩, ?_⟩
  rintro i m σ' H' ⟨rfl, hle, w', env', st', rs', e', re', h'⟩
  by_cases hlt : i < ds.length
  · have hd : ds[i]? = some ds[i] := List.getElem?_eq_getElem hlt
    obtain ⟨go, yl⟩ := (wk i w' H' e').1 _ hd
    refine .inr ⟨go, fun σ2 H2 => ∃ w2 env2 st2, RSt G.K G.T w2 st2 H2 ∧ Ext w1 H1 w2 H2 ∧ REnv G.K w2 H2 env2 σ2 ∧ FitS G w2 H2 Dn W (forM g mbd (ds.drop (i + 1)) env2 st2), fun σ2 H2 q => ⟨ds.length - (i + 1), by omega, rfl, hlt, q⟩, fun x H2 y => ?_⟩
    obtain ⟨k1, k2, k3⟩ := yl x H2 y st' rs'
    rw [List.drop_eq_getElem_cons hlt] at h'
    refine ⟨w', env', st', ds[i], k1, re'.ext k2, k3, ?_⟩
    unfold forM at h'
    cases q : g ds[i] env' st' with
    | none => rw [q] at h'; exact h'
    | some p =>
      obtain ⟨env2, st2⟩ := p
      rw [q] at h'
      dsimp only at h' ⊢
      intro w2 H3 σ2 rs2 e2 re2
      refine ⟨w2, env2, st2, rs2, re2, ?_⟩
      have ee := (e'.trans k2).trans e2
      cases q2 : mbd env2 st2 with
      | nx env3 st3 =>
        rw [q2] at h'
        exact fun w3 H4 σ3 rs3 e3 re3 => ⟨w3, env3, st3, rs3, ee.trans e3, re3, FitS.ext (x := forM g mbd (ds.drop (i + 1)) env3 st3) h' ((k2.trans e2).trans e3)⟩
      | ct env3 st3 =>
        rw [q2] at h'
        exact fun w3 H4 σ3 rs3 e3 re3 => ⟨w3, env3, st3, rs3, ee.trans e3, re3, FitS.ext (x := forM g mbd (ds.drop (i + 1)) env3 st3) h' ((k2.trans e2).trans e3)⟩
      | bk env3 st3 =>
        rw [q2] at h'
        exact fun w3 H4 σ3 rs3 e3 re3 => h' w3 H4 σ3 rs3 ((k2.trans e2).trans e3) re3
      | rt d st3 =>
        rw [q2] at h'
        exact fun w3 H4 v rs3 e3 r3 => h' w3 H4 v rs3 ((k2.trans e2).trans e3) r3
      | err c fs env3 st3 =>
        rw [q2] at h'
        exact fun w3 H4 σ3 cls dx rs3 e3 re3 x3 => h' w3 H4 σ3 cls dx rs3 ((k2.trans e2).trans e3) re3 x3
      | bad => rw [q2] at h'; exact h'
  · have ei : i = ds.length := by omega
    refine .inl ⟨(wk i w' H' e').2 ei, ?_⟩
    rw [ei, List.drop_length] at h'
    exact h' w' H' σ' rs' (Ext.refl _ _) re'
def whileM (mt : EM Bool) (mb : SM) : Nat → SM
  | 0, _, _ => .bad
  | n + 1, env, st => bndS env (mt env st) fun c st => if c then (match mb env st with
      | .nx env2 st2 => whileM mt mb n env2 st2
      | .ct env2 st2 => whileM mt mb n env2 st2
      | .bk env2 st2 => .nx env2 st2
      | o => o) else .nx env st
def sWhile (fuel : Env' → Nat) (mt : EM Bool) (mb : SM) : SM := fun env st => whileM mt mb (fuel env) env st
theorem ds_while {body : List Stmt} (fuel : Env' → Nat) (hp : PassesOwn (model X.prog X.w) X.A X.env X.xe) (hc : PT X c (dT G W mt)) (hb : PSs X body (dS G W mbd)) : PS X (.While c body [] pos) (dS G W (sWhile fuel mt mbd)) := PS.imp (ps_while hp hc hb) fun Dn σ H ⟨w, env, st, rs, re, h⟩ => by
  refine ⟨fun m σ' H' => ∃ w' env' st', RSt G.K G.T w' st' H' ∧ Ext w H w' H' ∧ REnv G.K w' H' env' σ' ∧ FitS G w' H' Dn W (whileM mt mbd m env' st'), ⟨fuel env, w, env, st, rs, Ext.refl _ _, re, h⟩, ?_⟩
  rintro m σ' H' ⟨w', env', st', rs', e', re', h'⟩
  cases m with
  | zero => exact h'.elim
  | succ n =>
    unfold whileM at h'
    refine ⟨w', env', st', rs', re', FitS.bind re' h' fun cc st1 w1 H1 v rs1 e1 rv h1 => ?_⟩
    subst rv
    cases v with
    | false => exact h1 w1 H1 σ' rs1 (Ext.refl _ _) (re'.ext e1)
    | true =>
      rw [if_pos rfl] at h1
      refine ⟨fun σ2 H2 => ∃ w2 env2 st2, RSt G.K G.T w2 st2 H2 ∧ Ext w H w2 H2 ∧ REnv G.K w2 H2 env2 σ2 ∧ FitS G w2 H2 Dn W (whileM mt mbd n env2 st2), fun σ2 H2 q => ⟨n, Nat.lt_succ_self n, q⟩, w1, env', st1, rs1, re'.ext e1, ?_⟩
      have ee := e'.trans e1
      cases q2 : mbd env' st1 with
      | nx env3 st3 =>
        rw [q2] at h1
        exact fun w3 H4 σ3 rs3 e3 re3 => ⟨w3, env3, st3, rs3, ee.trans e3, re3, FitS.ext (x := whileM mt mbd n env3 st3) h1 e3⟩
      | ct env3 st3 =>
        rw [q2] at h1
        exact fun w3 H4 σ3 rs3 e3 re3 => ⟨w3, env3, st3, rs3, ee.trans e3, re3, FitS.ext (x := whileM mt mbd n env3 st3) h1 e3⟩
      | bk env3 st3 => rw [q2] at h1; exact h1
      | rt d st3 => rw [q2] at h1; exact h1
      | err c fs env3 st3 => rw [q2] at h1; exact h1
      | bad => rw [q2] at h1; exact h1
end
/-! ### a def -/
def startE (n : Nat) (ds : List D) : Env' := ds.map some ++ List.replicate (n - ds.length) none
def outOf : OutS → Out D
  | .rt d st => .ok d st
  | .nx _ st => .ok .non st
  | .err c fs _ st => .err c fs st
  | _ => .bad
def runM (n : Nat) (m : SM) : List D → Sto → Out D := fun ds st => outOf (m (startE n ds) st)
theorem renv_start {K : PySem.W.Frag} {w : Wo} {H : Hp} {vs : List V} {ds : List D} {N : List Str} (r : Reps K w H vs ds) : REnv K w H (startE N.length ds) (L2.start N vs) := by
  have hl := r.length
  refine ⟨?_, fun i d h => ?_⟩
  · unfold startE L2.start
    simp only [List.length_append, List.length_map, List.length_replicate, hl]
  · unfold startE at h
    unfold L2.start
    by_cases hi : i < ds.length
    · rw [List.getElem?_append_left (by simpa using hi), List.getElem?_map] at h
      cases e : ds[i]? with
      | none => rw [e] at h; cases h
      | some d' =>
        rw [e] at h
        cases h
        obtain ⟨v, hv, rv⟩ := r.get e
        exact ⟨v, by rw [List.getElem?_append_left (by rw [List.length_map, hl]; exact hi), List.getElem?_map, hv]; rfl, rv⟩
    · rw [List.getElem?_append_right (by simpa using Nat.le_of_not_lt hi), List.getElem?_replicate] at h
      split at h <;> cases h
theorem fit_run {G : Gr} {w : Wo} {H : Hp} {Q : VK} {E : XK} {m : SM} {env : Env'} {st : Sto} (h : FitD G w H Q E (outOf (m env st))) : FitS G w H { nx := fun _ H' => Q .non H', rt := Q } (fun c d _ H' => E c d H') (m env st) := by
  cases q : m env st with
  | nx env' st' =>
    rw [q] at h
    exact fun w' H' σ' rs e re => h w' H' .non rs e .non
  | rt d st' => rw [q] at h; exact h
  | err c fs env' st' =>
    rw [q] at h
    exact fun w' H' σ' cls dx rs e re x => h w' H' cls dx rs e x
  | bk env' st' => rw [q] at h; exact h.elim
  | ct env' st' => rw [q] at h; exact h.elim
  | bad => rw [q] at h; exact h
/-- a def keeps what its body computes -/
theorem fn_ok {P : Program} {w : World} {K : PySem.W.Frag} {mg : Str → Option Value} {base : Heap} {G : Gr} {x qual : Str} {s1 : Stmt} {f : Addr} {fd : FuncData} {N ps : List Str} {k : Nat} {m : SM} (F : Fun K x qual s1 f fd) (S : FnScope N ps (defScope s1))
    (hb : ∀ (cdv : Value) (A : Around) (outer : List Env) (s : Shared) (H : Hp) (E : XK), Room k (A.deeper (envOfC qual (defScope s1) s.heap.objs.size f cdv)) → PSs (cxOf (L2.CX P w) P w K mg base N qual (defScope s1) f cdv A outer s H E) (defBody s1) (dS G (fun c d _ H' => E c d H') m)) :
    FnOk P w K mg base (L2.CX P w) (k + 1) f fd ps (spM G ps.length (runM N.length m)) := by
  refine F.okX S (fun vs H Q E h => h.1) fun cdv A outer s H vs Q E hr h => ⟨_, hb cdv A outer s H E hr, ?_⟩
  obtain ⟨_, w1, ds, st, rs, rv, h⟩ := h
  exact ⟨w1, _, st, rs, renv_start rv, fit_run h⟩
end DL

set_option Elab.async false
set_option linter.all false
set_option maxRecDepth 100000
set_option maxHeartbeats 2000000
namespace DL
open PySem PySem.Spec PyProof.Rows L2
/-! ### enumerate of a tuple -/
section
open Sem (wp)
set_option maxHeartbeats 4000000 in
theorem enumNew {v : Value} {o : Obj} {Hs : Heap → Prop} (B : Begins v o Hs) :
    Meets (Builtin.«enumerate.__new__» ⟨[.type "enumerate", v], []⟩) (fun _ R s => Hs s.heap ∧
      R (.ok (.ret (.ref (s.heap.push o).objs.size))) { s with heap := (s.heap.push o).push { cls := .type "enumerate", data := .fields #[.none, .bool false, .ref s.heap.objs.size, rawInt 0, .none, .none] } }) :=
  .of_wp fun prog w A R s hh => by
    obtain ⟨hp, g, d, tk, os⟩ := s
    obtain ⟨h1, h2⟩ := hh
    have hsub := sub_enumerate
    have begun : ∀ {A1 : Around} {E1 : Value → Shared → Prop} {Q1 : Value → Shared → Prop}, Q1 (.ref hp.objs.size) ⟨hp.push o, g, d, tk, os⟩ →
        wpAny (model prog w) A1 (pyIter v) Q1 E1 ⟨hp, g, d, tk, os⟩ := fun q => B.iter prog w _ _ ⟨hp, g, d, tk, os⟩ _ h1 q
    wp_walk using begun
    refine wpAny_stack_any fun fr => wpAny_pure ?_
    split
    · rename_i c _ _ _ _ _
      cases hcc : (c == Value.type "enumerate") <;>
      · wp_walk using begun
        exact ⟨_, rfl, h2⟩
    · wp_walk using begun
      exact ⟨_, rfl, h2⟩
end
/-- the tuple at a, each item in a new pair behind its number -/
def ItT (K : PySem.W.Frag) (a : Addr) : It where
  go := fun i H => ∃ (xs : List V) (x : V), SqT K H a xs ∧ xs[i]? = some x
  yld := fun i H v H' => ∃ T x, v = .ref T ∧ H T = none ∧ H' = upd H T (.tup [.int (i : Nat), x]) ∧ ∀ xs, SqT K H a xs → xs[i]? = some x
  stop := fun i H => ∃ xs : List V, SqT K H a xs ∧ xs.length = i
theorem turnT {P : Program} {w : World} {K : PySem.W.Frag} {elts : List Expr} {kk : Nat} {tpos : Pos} (a e it : Addr) :
    Turn P w K (.Tuple elts kk tpos) (ItT K a) [e, it] e (fun i h => (∃ old, IsEnum h e it ((i : Nat) : Int) old) ∧ h.IsTupleIter it a i ∧ e ≠ it ∧ a ≠ it ∧ a ≠ e) where
  mem := by simp
  obj := fun i h hst b hb => by
    obtain ⟨⟨old, he⟩, ⟨o, ho, hc, hd⟩, _⟩ := hst
    have hbb : b = e ∨ b = it := by simpa using hb
    cases hbb with
    | inl z => subst z; exact ⟨_, he, fun v q => nomatch q⟩
    | inr z => subst z; exact ⟨o, ho, fun v q => by rw [hd] at q; cases q⟩
  keep := fun i h h' hst k => by
    obtain ⟨⟨old, he⟩, hi, hne⟩ := hst
    exact ⟨⟨old, k e (by simp) _ he⟩, hi.at fun o q => k it (by simp) o q, hne⟩
  item := by
    intro X hP hw hK hc i pins s σ H E I hf hst hg
    subst hP; subst hw; subst hK
    obtain ⟨⟨old, he⟩, hit, hne, hai, hae⟩ := hst
    obtain ⟨xs, x, hq, hx⟩ := hg
    obtain ⟨its, rv, hp, hz⟩ := I.tuple hq
    obtain ⟨u, hu, ru⟩ := rv.get hx
    have el : e < s.heap.objs.size := Heap.lt_size he
    have il : it < s.heap.objs.size := by
      obtain ⟨_, q, _⟩ := hit
      exact Heap.lt_size q
    have hIT : s.heap.IsTuple a its.toArray := hp
    have Dw := Draws.tuple (prog := X.prog) (w := X.w) (A := X.A.in1) (show X.A.in1.handled = none from I.ok.hd hc) it a hai its.toArray
    have hlt : i < its.toArray.size := by
      have := (List.getElem?_eq_some_iff.mp hu).1
      simpa using this
    refine wpAny_pyNext_enum_itemD Dw he ⟨hit, hIT⟩ hlt hne (by simp [hne, Ne.symm hae]) fun y h1 tk hy ho hs1 hT hsz hk => ?_
    have eyu : y = u := by
      have h3 : its[i]? = some y := by simpa using hy
      rw [hu] at h3
      exact (Option.some.inj h3).symm
    subst eyu
    refine ⟨_, rfl, wpAny_letOwnedTupleGo_enum (s := { s with heap := h1, toks := tk + 1 }) ho fun h2 he2 sb => ?_⟩
    have hT2 : h2.get? s.heap.objs.size = some { cls := .type "tuple", data := .seq #[.int i tk, y] } := (sb.2 _ (Nat.ne_of_gt el)).trans hT
    have fresh : ObjOk X.prog X.w (upd H s.heap.objs.size (.tup [.int (i : Nat), x])) h2 s.heap.objs.size (.tup [.int (i : Nat), x]) :=
      ⟨by show 2 ≤ sizeLine; decide, [.int i tk, y], .cons ⟨_, rfl⟩ (.cons ru .nil), ⟨_, hT2, rfl, _, rfl⟩⟩
    have I1 : Inv X pins σ (upd H s.heap.objs.size (.tup [.int (i : Nat), x])) { s with heap := h2, toks := tk + 1 } := by
      refine I.turnedNew (ch := [e, it]) (fun b ob hb q => ?_) hf (Nat.le_refl _) fresh
      have b1 : b ≠ e := fun z => hb (by simp [z])
      have b2 : b ≠ it := fun z => hb (by simp [z])
      exact (sb.2 b b1).trans (hk b ob b1 b2 q)
    refine ⟨.ref s.heap.objs.size, _, I1, rfl, ⟨_, x, rfl, I.hok.fresh (Nat.le_refl _), rfl, fun ys hy => by rw [I.tuple_inj hy hq]; exact hx⟩, ⟨⟨y, ?_⟩, hs1.1.at fun o q => (sb.2 it (Ne.symm hne)).trans q, hne, hai, hae⟩, fun b hb => ?_⟩
    · have e1 : ((i + 1 : Nat) : Int) = (i : Int) + 1 := by omega
      rw [e1]
      exact he2
    · have hb' : b < s.heap.objs.size := by
        have hbb : b = e ∨ b = it := by simpa using hb
        cases hbb with
        | inl z => subst z; exact el
        | inr z => subst z; exact il
      rw [upd_ne (Nat.ne_of_lt hb')]
      exact (hf b hb).1
  done := by
    intro X hP hw hK hc i pins s σ H E I hf hst hg
    subst hP; subst hw; subst hK
    obtain ⟨⟨old, he⟩, hit, hne, hai, hae⟩ := hst
    obtain ⟨xs, hq, hx⟩ := hg
    obtain ⟨its, rv, hp, hz⟩ := I.tuple hq
    obtain ⟨f0, f1, f2, f3, f4, f5⟩ := hf it (by simp)
    have hl := rv.length
    have hIT : s.heap.IsTuple a its.toArray := hp
    have Dw := Draws.tuple (prog := X.prog) (w := X.w) (A := X.A.in1) (show X.A.in1.handled = none from I.ok.hd hc) it a hai its.toArray
    have ei : i = its.toArray.size := by
      rw [List.size_toArray]
      omega
    refine wpAny_pyNext_enum_endD Dw he ⟨by rw [← ei]; exact hit, hIT⟩ fun h1 eb => ⟨rfl, ?_⟩
    exact I.turned (t' := s.toks) (fun b o hb q => eb b o hb q) f0 f1 f3 f4 f5
  self := fun A i s Q E hst h => by
    obtain ⟨⟨_, he⟩, _⟩ := hst
    exact wpAny_pyIter_enum he h

/-! ### what a loop walks -/
section
variable {X : Cx} {tg e : Expr} {te : TE} {ta : TA} {p pos tpos : Pos} {elts : List Expr} {kk : Nat}
def iSeq (K : PySem.W.Frag) (te : TE) : TI := fun σ H R => te σ H fun x H1 => (∃ a, x = .ref a ∧ (∃ xs, SqL K H1 a xs) ∧ R (Itl K a) H1) ∨ (∃ a, x = .ref a ∧ (∃ xs, SqT K H1 a xs) ∧ R (Itt K a) H1) ∨ ∃ z, x = .str z ∧ R (Its z) H1
theorem pi_seq (he : PE X e te) : PI X tg e (iSeq X.K te) := by
  refine ⟨fun pins s σ H R I h => thn (he.run pins s σ H _ I h) fun v s1 hv => ?_⟩
  obtain ⟨x, H1, I1, r1, q1⟩ := hv
  rcases q1 with ⟨a, ex, ⟨xs, hq⟩, q⟩ | ⟨a, ex, ⟨xs, hq⟩, q⟩ | ⟨z, ex, q⟩
  · subst ex
    cases r1
    obtain ⟨its, rv, pl, hz⟩ := I1.list hq
    exact wpAny_pyIter_list pl.isList (pi_one (tk := s1.toks) I1 _ (turn_list a _) ⟨_, Heap.get?_push_size _ rfl, rfl, rfl⟩ q)
  · subst ex
    cases r1
    obtain ⟨its, rv, pl, hz⟩ := I1.tuple hq
    have hT : s1.heap.IsTuple a its.toArray := pl
    exact wpAny_pyIter_tuple hT (pi_one (tk := s1.toks) I1 _ (turn_tuple a _) ⟨_, Heap.get?_push_size _ rfl, rfl, rfl⟩ q)
  · subst ex
    obtain ⟨t, rfl⟩ := r1
    cases hall : z.cps.all (· < 128)
    · exact wpAny_pyIter_wide hall (pi_one (tk := s1.toks) I1 _ (turn_str _ z t _ (.inr rfl)) ⟨_, Heap.get?_push_size _ rfl, rfl, rfl⟩ q)
    · exact wpAny_pyIter_ascii hall (pi_one (tk := s1.toks) I1 _ (turn_str _ z t _ (.inl rfl)) ⟨_, Heap.get?_push_size _ rfl, rfl, rfl⟩ q)
def iEn (K : PySem.W.Frag) (ta : TA) : TI := fun σ H R => ta σ H fun vs H1 => ∃ a xs, vs = [.ref a] ∧ ((SqL K H1 a xs ∧ R (Ite K a) H1) ∨ (SqT K H1 a xs ∧ R (ItT K a) H1))
theorem pi_en (hg : Gl X "enumerate") (hm : X.mg "enumerate" = none) (ha : PA X [e] ta) (hs : starEach [e] X.env = [(false, eval e X.env)] := by rfl) : PI X (.Tuple elts kk tpos) (.Call (.Name "enumerate" p) [e] [] pos) (iEn X.K ta) := by
  refine ⟨fun pins s σ H R I h => ?_⟩
  refine Call_ (ld_blt I hg hm boot_enumerate (PyProof.Rows.callWith_type1 (thn (ha.run pos pins s σ H _ I h) fun us s1 hv => ?_) hs rfl))
  obtain ⟨vs, H1, I1, r1, a, xs, ex, q1⟩ := hv
  subst ex
  obtain ⟨u, rfl, ru⟩ := vals1 r1
  cases ru
  have mine : ∀ {b : Addr}, b ∈ [s1.heap.objs.size + 1, s1.heap.objs.size] → s1.heap.objs.size ≤ b := fun {b} hb => by
    have hbb : b = s1.heap.objs.size + 1 ∨ b = s1.heap.objs.size := by simpa using hb
    rcases hbb with z | z <;> rw [z]
    · exact Nat.le_add_right _ _
    · exact Nat.le_refl _
  rcases q1 with ⟨hq, q⟩ | ⟨hq, q⟩
  · obtain ⟨its, rv, pl, hz⟩ := I1.list hq
    refine call_enumerate_list pl.isList fun h1 he hit hsz hk => wpAny_pyIter_enum he ?_
    exact ⟨s1.heap.objs.size + 1, _, _, _, H1, rfl, I1.kept (t' := s1.toks) hk, turn_enum a (s1.heap.objs.size + 1) s1.heap.objs.size, ⟨⟨.none, he⟩, hit, Nat.succ_ne_self _⟩, fun b hb => I1.fpOk (mine hb) (I1.hok.fresh (mine hb)), q⟩
  · obtain ⟨its, rv, pl, hz⟩ := I1.tuple hq
    have hT : s1.heap.IsTuple a its.toArray := pl
    have al : a < s1.heap.objs.size := by
      obtain ⟨o, ho, _⟩ := hT
      exact Heap.lt_size ho
    refine callType_new F.called_enumerate (by decide) (F.typeCall_enumerate_1 _) (F.newCall_enumerate_1 _) (fun obj => F.args_object_init_2 obj _) F.entry_enumerate_new (enumNew (begins_tuple a its.toArray)) ⟨hT, ?_⟩
    have hz1 : (s1.heap.push { cls := .type "tuple_iterator", data := .fields #[.ref a, .int 0 0] }).objs.size = s1.heap.objs.size + 1 := Heap.size_push ..
    show _ ∧ _
    rw [hz1]
    have he : IsEnum ((s1.heap.push { cls := .type "tuple_iterator", data := .fields #[.ref a, .int 0 0] }).push
        { cls := .type "enumerate", data := .fields #[.none, .bool false, .ref s1.heap.objs.size, rawInt 0, .none, .none] }) (s1.heap.objs.size + 1) s1.heap.objs.size 0 .none := by
      have hg2 := Heap.get?_push_size (s1.heap.push { cls := .type "tuple_iterator", data := .fields #[.ref a, .int 0 0] })
        (o := { cls := .type "enumerate", data := .fields #[.none, .bool false, .ref s1.heap.objs.size, rawInt 0, .none, .none] }) rfl
      rw [hz1] at hg2
      exact hg2
    refine ⟨⟨_, he, rfl⟩, wpAny_pyIter_enum he ?_⟩
    refine ⟨s1.heap.objs.size + 1, _, _, _, H1, rfl, I1.kept (t' := s1.toks) fun b o x => Heap.get?_push_of_some _ (Heap.get?_push_of_some _ x), turnT a (s1.heap.objs.size + 1) s1.heap.objs.size, ⟨⟨.none, he⟩, ?_, Nat.succ_ne_self _, Nat.ne_of_lt al, Nat.ne_of_lt (Nat.lt_succ_of_lt al)⟩, fun b hb => I1.fpOk (mine hb) (I1.hok.fresh (mine hb)), q⟩
    exact ⟨_, Heap.get?_push_of_some _ (Heap.get?_push_size _ rfl), rfl, rfl⟩
end
end DL

set_option Elab.async false
set_option linter.all false
set_option maxRecDepth 100000
set_option maxHeartbeats 2000000
namespace DL
open PySem PySem.Spec PyProof.Rows L2
def itemsOf : D → Option (List D)
  | .lst ds => some ds
  | .tup ds => some ds
  | .scr ns => some (ns.map D.int)
  | .str z => some (z.cps.toList.map fun c => .str ⟨#[c]⟩)
  | _ => none
section
variable {X : Cx} {G : Gr} {W : WX} {a b c e o i : Expr} {es rest : List Expr} {ma mb me mo mi : EM D} {mt mu : EM Bool} {mr : EM (List D)} {pos p tpos : Pos} {s1 : Stmt} {ss : List Stmt} {m1 m2 mbd : SM} {tg : Expr} {elts : List Expr} {kk : Nat}
theorem dwalk_at {w0 : Wo} {H0 : Hp} {J : It} {xs : List V} {ds : List D} (r : Reps G.K w0 H0 xs ds) (hg : ∀ (i : Nat) (w : Wo) (H : Hp) (x : V), Ext w0 H0 w H → xs[i]? = some x → J.go i H) (hy : ∀ (i : Nat) (w : Wo) (H : Hp) (x : V) (H' : Hp), Ext w0 H0 w H → J.yld i H x H' → H' = H ∧ xs[i]? = some x)
    (hs : ∀ (w : Wo) (H : Hp), Ext w0 H0 w H → J.stop xs.length H) : DWalk G w0 H0 J ds := fun i w H e => by
  have r' := r.ext e
  refine ⟨fun d hd => ?_, fun hi => by rw [hi, ← r.length]; exact hs w H e⟩
  obtain ⟨v, hv, rv⟩ := r'.get hd
  refine ⟨hg i w H v e hv, fun x H' y => ?_⟩
  obtain ⟨eh, hx⟩ := hy i w H x H' e y
  subst eh
  rw [hv] at hx
  cases hx
  exact fun _ q => ⟨q, Ext.refl _ _, rv⟩
theorem dwalk_pair {w0 : Wo} {H0 : Hp} {J : It} {xs : List V} {ds : List D} (r : Reps G.K w0 H0 xs ds) (hg : ∀ (i : Nat) (w : Wo) (H : Hp) (x : V), Ext w0 H0 w H → xs[i]? = some x → J.go i H) (hy : ∀ (i : Nat) (w : Wo) (H : Hp) (v : V) (H' : Hp), Ext w0 H0 w H → J.yld i H v H' → ∃ T x, v = .ref T ∧ H T = none ∧ H' = upd H T (.tup [.int (i : Nat), x]) ∧ xs[i]? = some x)
    (hs : ∀ (w : Wo) (H : Hp), Ext w0 H0 w H → J.stop xs.length H) : DWalk G w0 H0 J (ds.zipIdx.map fun q => .tup [.int (q.2 : Nat), q.1]) := fun i w H e => by
  have r' := r.ext e
  refine ⟨fun d hd => ?_, fun hi => ?_⟩
  · rw [List.getElem?_map, List.getElem?_zipIdx] at hd
    cases hdi : ds[i]? with
    | none => rw [hdi] at hd; cases hd
    | some d0 =>
      rw [hdi] at hd
      simp only [Option.map_some, Option.some.injEq, Nat.zero_add] at hd
      subst hd
      obtain ⟨v, hv, rv⟩ := r'.get hdi
      refine ⟨hg i w H v e hv, fun x H' y => ?_⟩
      obtain ⟨T, x0, ex, hT, eH, hx⟩ := hy i w H x H' e y
      subst ex eH
      rw [hv] at hx
      cases hx
      exact fun st rs => rs.newT hT (.cons (.int _) (.cons rv .nil))
  · rw [hi, List.length_map, List.length_zipIdx, ← r.length]
    exact hs w H e
def enumD (d : D) (st : Sto) : Out (List D) := match d with
  | .lst ds => .ok (ds.zipIdx.map fun q => .tup [.int (q.2 : Nat), q.1]) st
  | .tup ds => .ok (ds.zipIdx.map fun q => .tup [.int (q.2 : Nat), q.1]) st
  | _ => .bad
def itemsO (d : D) (st : Sto) : Out (List D) := match itemsOf d with
  | some ds => .ok ds st
  | none => .bad
def iSq (me : EM D) : EM (List D) := fun env st => bnd (me env st) itemsO
def iEm (me : EM D) : EM (List D) := fun env st => bnd (me env st) enumD
theorem di_seq (hK : G.K = X.K) (he : PE X e (dE G W me)) : PI X tg e (dI G W (iSq me)) := PI.imp (pi_seq he) fun σ H R ⟨w, env, st, rs, re, h⟩ => by
  refine ⟨w, env, st, rs, re, Fit.bind h fun d st1 w1 H1 v rs1 e1 rv h1 => ?_⟩
  rw [← hK]
  cases rv with
  | @lst p xs ds f q =>
    refine .inl ⟨p, rfl, ⟨xs, f.sq⟩, h1 w1 H1 _ rs1 (Ext.refl _ _) (dwalk_at q (fun i w H x ee hx => ⟨xs, x, (f.ext ee).sq, hx⟩) (fun i w H x H' ee y => ⟨y.1, y.2 xs (f.ext ee).sq⟩) fun w H ee => ⟨xs, (f.ext ee).sq, Nat.le_refl _⟩)⟩
  | @tup p xs ds f q =>
    refine .inr (.inl ⟨p, rfl, ⟨xs, f.sq⟩, h1 w1 H1 _ rs1 (Ext.refl _ _) (dwalk_at q (fun i w H x ee hx => ⟨xs, x, (f.ext ee).sq, hx⟩) (fun i w H x H' ee y => ⟨y.1, y.2 xs (f.ext ee).sq⟩) fun w H ee => ⟨xs, (f.ext ee).sq, Nat.le_refl _⟩)⟩)
  | @scr p ns f =>
    refine .inl ⟨p, rfl, ⟨_, f.sq⟩, h1 w1 H1 _ rs1 (Ext.refl _ _) (dwalk_at (Reps.of_ints ns) (fun i w H x ee hx => ⟨_, x, (f.ext ee).sq, hx⟩) (fun i w H x H' ee y => ⟨y.1, y.2 _ (f.ext ee).sq⟩) fun w H ee => ⟨_, (f.ext ee).sq, Nat.le_refl _⟩)⟩
  | str z =>
    refine .inr (.inr ⟨z, rfl, h1 w1 H1 _ rs1 (Ext.refl _ _) fun i w H ee => ⟨fun d hd => ?_, fun hi => ?_⟩⟩)
    · rw [List.getElem?_map] at hd
      cases hc : z.cps.toList[i]? with
      | none => rw [hc] at hd; cases hd
      | some c =>
        rw [hc] at hd
        cases hd
        have hc' : z.cps[i]? = some c := by rw [← Array.getElem?_toList]; exact hc
        refine ⟨(Array.getElem?_eq_some_iff.mp hc').1, fun x H' y st rs => ?_⟩
        obtain ⟨eH, c2, h2, ex⟩ := y
        subst eH ex
        rw [hc'] at h2
        cases h2
        exact ⟨rs, Ext.refl _ _, .str _⟩
    · have : i = z.cps.size := by simpa using hi
      show z.cps.size ≤ i
      omega
  | _ => exact h1.elim
theorem di_enum (hK : G.K = X.K) (hg : Gl X "enumerate") (hm : X.mg "enumerate" = none) (ha : PE X e (dE G W me)) (hs : starEach [e] X.env = [(false, eval e X.env)] := by rfl) (hs2 : starEach (e :: []) X.env = (false, eval e X.env) :: starEach [] X.env := by rfl) :
    PI X (.Tuple elts kk tpos) (.Call (.Name "enumerate" p) [e] [] pos) (dI G W (iEm me)) := PI.imp (pi_en hg hm (da_cons ha da_nil hs2) hs) fun σ H R ⟨w, env, st, rs, re, h⟩ => by
  refine ⟨w, env, st, rs, re, ?_⟩
  unfold aCons
  have h2 : Fit G (DWalk G) w H R (fun c d H' => W c d σ H') (bnd (bnd (me env st) fun d st => bnd (aNil env st) fun ds st => Out.ok (d :: ds) st) fun ds st => match ds with | [d] => enumD d st | _ => .bad) := by
    unfold iEm at h
    cases q : me env st with
    | ok d st1 => rw [q] at h; exact h
    | err c fs st1 => rw [q] at h; exact h
    | bad => rw [q] at h; exact h
  refine Fit.bind h2 fun ds st1 w1 H1 vs rs1 e1 rvs h1 => ?_
  rw [← hK]
  cases rvs with
  | nil => exact h1.elim
  | cons rv rr =>
    cases rr with
    | cons _ _ => exact h1.elim
    | nil =>
      cases rv with
      | @lst p xs ds f q =>
        refine ⟨p, xs, rfl, .inl ⟨f.sq, h1 w1 H1 _ rs1 (Ext.refl _ _) (dwalk_pair q (fun i w H x ee hx => ⟨xs, x, (f.ext ee).sq, hx⟩) (fun i w H v H' ee y => ?_) fun w H ee => ⟨xs, (f.ext ee).sq, Nat.le_refl _⟩)⟩⟩
        obtain ⟨T, x, z1, z2, z3, z4⟩ := y
        exact ⟨T, x, z1, z2, z3, z4 xs (f.ext ee).sq⟩
      | @tup p xs ds f q =>
        refine ⟨p, xs, rfl, .inr ⟨f.sq, h1 w1 H1 _ rs1 (Ext.refl _ _) (dwalk_pair q (fun i w H x ee hx => ⟨xs, x, (f.ext ee).sq, hx⟩) (fun i w H v H' ee y => ?_) fun w H ee => ⟨xs, (f.ext ee).sq, rfl⟩)⟩⟩
        obtain ⟨T, x, z1, z2, z3, z4⟩ := y
        exact ⟨T, x, z1, z2, z3, z4 xs (f.ext ee).sq⟩
      | _ => exact h1.elim
/-- range(j), range(i, j) -/
def rangeD1 (ds : List D) (st : Sto) : Out (List D) := match ds with
  | [.int j] => if -(2 ^ 62) ≤ j ∧ j < 2 ^ 62 then .ok ((List.range j.toNat).map fun (k : Nat) => .int (0 + (k : Int))) st else .bad
  | _ => .bad
def rangeD2 (ds : List D) (st : Sto) : Out (List D) := match ds with
  | [.int i, .int j] => if -(2 ^ 62) ≤ i ∧ i < 2 ^ 62 ∧ -(2 ^ 62) ≤ j ∧ j < 2 ^ 62 then .ok ((List.range (j - i).toNat).map fun (k : Nat) => .int (i + (k : Int))) st else .bad
  | _ => .bad
def iR1 (mr : EM (List D)) : EM (List D) := fun env st => bnd (mr env st) rangeD1
def iR2 (mr : EM (List D)) : EM (List D) := fun env st => bnd (mr env st) rangeD2
theorem dwalk_range {w : Wo} {H : Hp} (lo : Int) (n : Nat) : DWalk G w H (Itr lo n) ((List.range n).map fun (k : Nat) => .int (lo + (k : Int))) := fun i w' H' e => by
  refine ⟨fun d hd => ?_, fun hi => ?_⟩
  · rw [List.getElem?_map] at hd
    by_cases hl : i < n
    · rw [List.getElem?_range hl] at hd
      cases hd
      refine ⟨hl, fun x H2 y st rs => ?_⟩
      obtain ⟨eH, ex⟩ := y
      subst eH ex
      exact ⟨rs, Ext.refl _ _, .int _⟩
    · rw [List.getElem?_eq_none (by simpa using Nat.le_of_not_lt hl)] at hd
      cases hd
  · show n ≤ i
    rw [hi]
    simp
theorem di_range1 (hg : Gl X "range") (hm : X.mg "range" = none) (ha : PA X [a] (dA G W mr)) (hs : starEach [a] X.env = [(false, eval a X.env)] := by rfl) : PI X tg (.Call (.Name "range" p) [a] [] pos) (dI G W (iR1 mr)) := PI.imp (pi_range1 hg hm ha hs) fun σ H R ⟨w, env, st, rs, re, h⟩ => by
  refine ⟨w, env, st, rs, re, Fit.bind h fun ds st1 w1 H1 vs rs1 e1 rvs h1 => ?_⟩
  unfold rangeD1 at h1
  split at h1
  · rename_i j
    split at h1
    · rename_i hc
      cases rvs with
      | cons r1 rr =>
        cases r1
        cases rr
        exact ⟨j, rfl, hc.1, hc.2, h1 _ _ _ rs1 (Ext.refl _ _) (dwalk_range 0 _)⟩
    · exact h1.elim
  · exact h1.elim
theorem di_range2 (hg : Gl X "range") (hm : X.mg "range" = none) (ha : PA X [a, b] (dA G W mr)) (hs : starEach [a, b] X.env = [(false, eval a X.env), (false, eval b X.env)] := by rfl) (hs2 : starEach [b] X.env = [(false, eval b X.env)] := by rfl) : PI X tg (.Call (.Name "range" p) [a, b] [] pos) (dI G W (iR2 mr)) := PI.imp (pi_range2 hg hm ha hs hs2) fun σ H R ⟨w, env, st, rs, re, h⟩ => by
  refine ⟨w, env, st, rs, re, Fit.bind h fun ds st1 w1 H1 vs rs1 e1 rvs h1 => ?_⟩
  unfold rangeD2 at h1
  split at h1
  · rename_i i j
    split at h1
    · rename_i hc
      cases rvs with
      | cons r1 rr =>
        cases r1
        cases rr with
        | cons r2 r3 =>
          cases r2
          cases r3
          exact ⟨i, j, rfl, hc, h1 _ _ _ rs1 (Ext.refl _ _) (dwalk_range i _)⟩
    · exact h1.elim
  · exact h1.elim
end
end DL

set_option Elab.async false
set_option linter.all false
set_option maxRecDepth 100000
set_option maxHeartbeats 2000000
namespace DL
open PySem PySem.Spec PyProof.Rows L2
theorem OpR.or {X : Cx} {f : Value → Value → Sem Value} {r r' : R2} (h : OpR X f r) (h' : OpR X f r') : OpR X f (fun x y H Q => r x y H Q ∨ r' x y H Q) := by
  intro pins s σ H x y v u Q I rx ry q
  rcases q with q | q
  · exact h pins s σ H x y v u Q I rx ry q
  · exact h' pins s σ H x y v u Q I rx ry q
theorem OpS.inl {X : Cx} {G : Gr} {r r' : R2} {f : D → D → Sto → Out D} (h : OpS X G r f) : OpS X G (fun x y H Q => r x y H Q ∨ r' x y H Q) f := fun w st H x y dx dy Q rs rx ry q => .inl (h w st H x y dx dy Q rs rx ry q)

/-! ### whole numbers -/
def iiO (C : Int → Int → Bool) (g : Int → Int → D) : D → D → Sto → Out D := fun x y st => match x, y with
  | .int i, .int j => if C i j then .ok (g i j) st else .bad
  | _, _ => .bad
theorem calm_ii {C : Int → Int → Bool} {g : Int → Int → D} (x y : D) (st : Sto) : Calm (iiO C g x y st) := by
  unfold iiO
  split
  · split <;> trivial
  · trivial
theorem ops_ii {X : Cx} {G : Gr} {C : Int → Int → Bool} {Cp : Int → Int → Prop} {gv : Int → Int → V} {g : Int → Int → D} (hc : ∀ i j, C i j = true → Cp i j) (hr : ∀ w H i j, Rep G.K w H (gv i j) (g i j)) : OpS X G (rI Cp gv) (iiO C g) := by
  intro w st H x y dx dy Q rs rx ry h
  unfold iiO at h
  split at h
  · rename_i i j
    cases rx
    cases ry
    split at h
    · rename_i hcc
      exact ⟨i, j, rfl, rfl, hc i j hcc, h.now rs (hr w H i j)⟩
    · exact h.elim
  · exact h.elim
theorem ops_i0 {X : Cx} {G : Gr} {gv : Int → Int → V} {g : Int → Int → D} (hr : ∀ w H i j, Rep G.K w H (gv i j) (g i j)) : OpS X G (rI0 gv) (iiO (fun _ _ => true) g) := by
  intro w st H x y dx dy Q rs rx ry h
  unfold iiO at h
  split at h
  · rename_i i j
    cases rx
    cases ry
    exact ⟨i, j, rfl, rfl, h.now rs (hr w H i j)⟩
  · exact h.elim
abbrev T0 : Int → Int → Bool := fun _ _ => true
def oSub := iiO T0 fun i j => .int (i - j)
def oLt := iiO T0 fun i j => .bl (decide (i < j))
def oLe := iiO T0 fun i j => .bl (decide (i ≤ j))
def oGt := iiO T0 fun i j => .bl (decide (j < i))
def oGe := iiO T0 fun i j => .bl (decide (j ≤ i))
def cMul (i j : Int) : Bool := decide (-(2 ^ 64) < i ∧ i < 2 ^ 64) || decide (-(2 ^ 64) < j ∧ j < 2 ^ 64) || decide (i.natAbs.log2 + j.natAbs.log2 < 1000000)
def oMul := iiO cMul fun i j => .int (i * j)
def cDiv (_ j : Int) : Bool := decide (0 < j ∧ j.natAbs.log2 < 9000)
def oDiv := iiO cDiv fun i j => .int (i / j)
def cMod (_ j : Int) : Bool := decide (0 < j)
def oMod := iiO cMod fun i j => .int (i % j)
def cPow (i j : Int) : Bool := decide (0 ≤ j ∧ j ≤ 1000000 ∧ i.natAbs < 2 ^ 64)
def oPow := iiO cPow fun i j => .int (i ^ j.toNat)
section
variable {X : Cx} {G : Gr} {W : WX} {a b e o : Expr} {es : List Expr} {ma mb me mo : EM D} {mr : EM (List D)} {pos p : Pos}
theorem de_sub (ha : PE X a (dE G W ma)) (hb : PE X b (dE G W mb)) : PE X (.BinOp a .Sub b pos) (dE G W (eOp oSub ma mb)) := de_op op_sub (ops_i0 fun _ _ _ _ => .int _) calm_ii ha hb
theorem ops_mul {X : Cx} {G : Gr} : OpS X G (fun x y H Q => (rI CMul fun i j => .int (i * j)) x y H Q ∨ (rI CMulW fun i j => .int (i * j)) x y H Q) oMul := by
  intro w st H x y dx dy Q rs rx ry h
  unfold oMul iiO at h
  split at h
  · rename_i i j
    cases rx
    cases ry
    split at h
    · rename_i hcc
      unfold cMul at hcc
      rw [Bool.or_eq_true, Bool.or_eq_true] at hcc
      rcases hcc with (hcc | hcc) | hcc
      · exact .inl ⟨i, j, rfl, rfl, .inl (of_decide_eq_true hcc), h.now rs (.int _)⟩
      · exact .inl ⟨i, j, rfl, rfl, .inr (of_decide_eq_true hcc), h.now rs (.int _)⟩
      · have q := of_decide_eq_true hcc
        exact .inr ⟨i, j, rfl, rfl, q, h.now rs (.int _)⟩
    · exact h.elim
  · exact h.elim
theorem cDiv_ok (i j : Int) (h : cDiv i j = true) : CDivW i j := by unfold cDiv at h; have q := of_decide_eq_true h; exact q
theorem cPow_ok (i j : Int) (h : cPow i j = true) : CPow i j := by unfold cPow at h; have q := of_decide_eq_true h; exact q
theorem de_mul (ha : PE X a (dE G W ma)) (hb : PE X b (dE G W mb)) : PE X (.BinOp a .Mult b pos) (dE G W (eOp oMul ma mb)) := de_op (OpR.or op_mul op_mulW) ops_mul calm_ii ha hb
theorem de_div (ha : PE X a (dE G W ma)) (hb : PE X b (dE G W mb)) : PE X (.BinOp a .FloorDiv b pos) (dE G W (eOp oDiv ma mb)) := de_op op_fdivW (ops_ii cDiv_ok fun _ _ _ _ => .int _) calm_ii ha hb
theorem de_mod (ha : PE X a (dE G W ma)) (hb : PE X b (dE G W mb)) : PE X (.BinOp a .Mod b pos) (dE G W (eOp oMod ma mb)) := de_op op_mod (ops_ii (fun i j h => of_decide_eq_true h) fun _ _ _ _ => .int _) calm_ii ha hb
theorem de_pow (ha : PE X a (dE G W ma)) (hb : PE X b (dE G W mb)) : PE X (.BinOp a .Pow b pos) (dE G W (eOp oPow ma mb)) := de_op op_pow (ops_ii cPow_ok fun _ _ _ _ => .int _) calm_ii ha hb
theorem de_lt (ha : PE X a (dE G W ma)) (hb : PE X b (dE G W mb)) : PE X (.Compare a [.Lt] [b] pos) (dE G W (eOp oLt ma mb)) := de_cmp op_lt (ops_i0 fun _ _ _ _ => .bl _) calm_ii ha hb (nomark _)
theorem de_le (ha : PE X a (dE G W ma)) (hb : PE X b (dE G W mb)) : PE X (.Compare a [.LtE] [b] pos) (dE G W (eOp oLe ma mb)) := de_cmp op_le (ops_i0 fun _ _ _ _ => .bl _) calm_ii ha hb (nomark _)
theorem de_gt (ha : PE X a (dE G W ma)) (hb : PE X b (dE G W mb)) : PE X (.Compare a [.Gt] [b] pos) (dE G W (eOp oGt ma mb)) := de_cmp op_gt (ops_i0 fun _ _ _ _ => .bl _) calm_ii ha hb (nomark _)
theorem de_ge (ha : PE X a (dE G W ma)) (hb : PE X b (dE G W mb)) : PE X (.Compare a [.GtE] [b] pos) (dE G W (eOp oGe ma mb)) := de_cmp op_ge (ops_i0 fun _ _ _ _ => .bl _) calm_ii ha hb (nomark _)
theorem dt_lt (ha : PE X a (dE G W ma)) (hb : PE X b (dE G W mb)) : PT X (.Compare a [.Lt] [b] pos) (dT G W (tOf (eOp oLt ma mb))) := dt_cmp op_lt (ops_i0 fun _ _ _ _ => .bl _) calm_ii ha hb (nomark _)
theorem dt_le (ha : PE X a (dE G W ma)) (hb : PE X b (dE G W mb)) : PT X (.Compare a [.LtE] [b] pos) (dT G W (tOf (eOp oLe ma mb))) := dt_cmp op_le (ops_i0 fun _ _ _ _ => .bl _) calm_ii ha hb (nomark _)
theorem dt_gt (ha : PE X a (dE G W ma)) (hb : PE X b (dE G W mb)) : PT X (.Compare a [.Gt] [b] pos) (dT G W (tOf (eOp oGt ma mb))) := dt_cmp op_gt (ops_i0 fun _ _ _ _ => .bl _) calm_ii ha hb (nomark _)
theorem dt_ge (ha : PE X a (dE G W ma)) (hb : PE X b (dE G W mb)) : PT X (.Compare a [.GtE] [b] pos) (dT G W (tOf (eOp oGe ma mb))) := dt_cmp op_ge (ops_i0 fun _ _ _ _ => .bl _) calm_ii ha hb (nomark _)

/-! ### a + b: whole numbers, texts, lists, tuples -/
def oAdd (x y : D) (st : Sto) : Out D := match x, y with
  | .int i, .int j => .ok (.int (i + j)) st
  | .str i, .str j => if i.length + j.length ≤ 100000 then .ok (.str (i ++ j)) st else .bad
  | .tup ds, .tup es => if (ds ++ es).length ≤ 100000 then .ok (.tup (ds ++ es)) st else .bad
  | x, y => (match lstOf st x, lstOf st y with
    | some ds, some es => if (ds ++ es).length ≤ 100000 then .ok (.lst (ds ++ es)) st else .bad
    | _, _ => .bad)
theorem calm_add (x y : D) (st : Sto) : Calm (oAdd x y st) := by
  unfold oAdd
  split
  · trivial
  · split <;> trivial
  · split <;> trivial
  · split
    · split <;> trivial
    · trivial
theorem le_line {n : Nat} (h : n ≤ 100000) : n ≤ sizeLine := Nat.le_trans h (by rw [sizeLine_eq]; omega)
theorem ops_add (hK : G.K = X.K) : OpS X G (fun x y H Q => (rI0 fun i j => .int (i + j)) x y H Q ∨ (∃ i j, x = .str i ∧ y = .str j ∧ i.length + j.length ≤ sizeLine ∧ Q (.str (i ++ j)) H) ∨ rCatA X.K x y H Q ∨ rCat x y H Q) oAdd := by
  intro w st H x y dx dy Q rs rx ry h
  unfold oAdd at h
  split at h
  · rename_i i j
    cases rx; cases ry
    exact .inl ⟨i, j, rfl, rfl, h.now rs (.int _)⟩
  · rename_i i j
    cases rx; cases ry
    split at h
    · rename_i hl
      exact .inr (.inl ⟨i, j, rfl, rfl, le_line hl, h.now rs (.str _)⟩)
    · exact h.elim
  · rename_i ds es
    cases rx with
    | @tup pa xs _ fa qa =>
    cases ry with
    | @tup pb ys _ fb qb =>
    split at h
    · rename_i hl
      have hz : xs.length + ys.length ≤ sizeLine := by
        rw [qa.length, qb.length, ← List.length_append]
        exact le_line hl
      refine .inr (.inr (.inl ⟨pa, pb, xs, ys, rfl, rfl, by rw [← hK]; exact fa.sq, by rw [← hK]; exact fb.sq, hz, fun ex => ?_, fun nx ey => ?_, fun nx ny p hp => ?_⟩))
      · subst ex
        cases qa
        exact h.now rs (.tup fb qb)
      · subst ey
        cases qb
        rw [List.append_nil] at h
        exact h.now rs (.tup fa qa)
      · obtain ⟨k1, k2, k3⟩ := rs.newT hp (qa.append qb)
        exact h _ _ _ k1 k2 k3
    · exact h.elim
  · split at h
    · rename_i ds es h1 h2
      split at h
      · rename_i hl
        obtain ⟨pa, xs, rfl, ea, qa⟩ := rx.lstAt rs h1
        obtain ⟨pb, ys, rfl, eb, qb⟩ := ry.lstAt rs h2
        refine .inr (.inr (.inr ⟨pa, pb, xs, ys, rfl, rfl, ea, eb, by rw [qa.length, qb.length, ← List.length_append]; exact le_line hl, fun p hp => ?_⟩))
        obtain ⟨k1, k2, k3⟩ := rs.newL hp (qa.append qb)
        exact h _ _ _ k1 k2 k3
      · exact h.elim
    · exact h.elim
theorem de_add (hK : G.K = X.K) (ha : PE X a (dE G W ma)) (hb : PE X b (dE G W mb)) : PE X (.BinOp a .Add b pos) (dE G W (eOp oAdd ma mb)) := de_op (OpR.or op_add (OpR.or op_add_str (OpR.or op_catA op_cat))) (ops_add hK) calm_add ha hb

/-! ### ==, != of data -/
mutual
def pyD : D → PyData
  | .non => .none
  | .bl b => .bool b
  | .int i => .int i
  | .str x => .str x
  | .lst ds => .list (pyDs ds)
  | .tup ds => .tuple (pyDs ds)
  | .cel _ => .none
  | .dic => .none
  | .fn _ _ _ _ _ => .none
  | .scr ns => .list (ns.map .int)
def pyDs : List D → List PyData
  | [] => []
  | d :: ds => pyD d :: pyDs ds
end
mutual
/-- no cells in it -/
def plainD : D → Bool
  | .cel _ => false
  | .dic => false
  | .fn _ _ _ _ _ => false
  | .lst ds => plainDs ds
  | .tup ds => plainDs ds
  | _ => true
def plainDs : List D → Bool
  | [] => true
  | d :: ds => plainD d && plainDs ds
end
theorem dpAll_ints {K : PySem.W.Frag} {H : Hp} : ∀ (ns : List Int), DpAll K H (ns.map V.int) (ns.map PyData.int)
  | [] => .nil
  | n :: ns => .cons (.int n) (dpAll_ints ns)
mutual
theorem Rep.dp {K : PySem.W.Frag} {w : Wo} {H : Hp} : ∀ {v : V} {d : D}, Rep K w H v d → plainD d = true → Dp K H v (pyD d)
  | _, _, .non, _ => .non
  | _, _, .bl b, _ => .bl b
  | _, _, .int i, _ => .int i
  | _, _, .str x, _ => .str x
  | _, _, .lst f r, h => .lst f.sq (Reps.dp r (by simpa [plainD] using h))
  | _, _, .tup f r, h => .tup f.sq (Reps.dp r (by simpa [plainD] using h))
  | _, _, .cel _, h => by simp [plainD] at h
  | _, _, .dic _ _, h => by simp [plainD] at h
  | _, _, .fn _ _ _, h => by simp [plainD] at h
  | _, _, .scr f, _ => .lst f.sq (dpAll_ints _)
theorem Reps.dp {K : PySem.W.Frag} {w : Wo} {H : Hp} : ∀ {vs : List V} {ds : List D}, Reps K w H vs ds → plainDs ds = true → DpAll K H vs (pyDs ds)
  | _, _, .nil, _ => .nil
  | _, d :: ds, .cons r t, h => by
    have h' : plainD d = true ∧ plainDs ds = true := by simpa [plainDs] using h
    exact .cons (Rep.dp r h'.1) (Reps.dp t h'.2)
end
def fineD (d : D) : Bool := plainD d && SeqAt.shaped (pyD d)
def oEq (x y : D) (st : Sto) : Out D := if fineD x && fineD y then .ok (.bl (PyData.eqv (pyD x) (pyD y))) st else .bad
def oNe (x y : D) (st : Sto) : Out D := if fineD x && fineD y then .ok (.bl (!PyData.eqv (pyD x) (pyD y))) st else .bad
theorem calm_eq (x y : D) (st : Sto) : Calm (oEq x y st) := by unfold oEq; split <;> trivial
theorem calm_ne (x y : D) (st : Sto) : Calm (oNe x y st) := by unfold oNe; split <;> trivial
theorem fine_split {x y : D} (h : (fineD x && fineD y) = true) : (plainD x = true ∧ SeqAt.shaped (pyD x) = true) ∧ plainD y = true ∧ SeqAt.shaped (pyD y) = true := by
  simpa [fineD, Bool.and_eq_true] using h
theorem ops_eq (hK : G.K = X.K) : OpS X G (rEqD X.K) oEq := by
  intro w st H x y dx dy Q rs rx ry h
  unfold oEq at h
  split at h
  · rename_i hf
    obtain ⟨⟨p1, s1⟩, p2, s2⟩ := fine_split hf
    rw [← hK]
    exact ⟨_, _, rx.dp p1, ry.dp p2, s1, s2, h.now rs (.bl _)⟩
  · exact h.elim
theorem ops_ne (hK : G.K = X.K) : OpS X G (rNeD X.K) oNe := by
  intro w st H x y dx dy Q rs rx ry h
  unfold oNe at h
  split at h
  · rename_i hf
    obtain ⟨⟨p1, s1⟩, p2, s2⟩ := fine_split hf
    rw [← hK]
    exact ⟨_, _, rx.dp p1, ry.dp p2, s1, s2, h.now rs (.bl _)⟩
  · exact h.elim
theorem de_eq (hK : G.K = X.K) (hu : X.A.units + 64 < cLine) (ha : PE X a (dE G W ma)) (hb : PE X b (dE G W mb)) : PE X (.Compare a [.Eq] [b] pos) (dE G W (eOp oEq ma mb)) := de_cmp (op_eqD hu) (ops_eq hK) calm_eq ha hb (nomark _)
theorem de_ne (hK : G.K = X.K) (hu : X.A.units + 64 < cLine) (ha : PE X a (dE G W ma)) (hb : PE X b (dE G W mb)) : PE X (.Compare a [.NotEq] [b] pos) (dE G W (eOp oNe ma mb)) := de_cmp (op_neD hu) (ops_ne hK) calm_ne ha hb (nomark _)
theorem dt_eq (hK : G.K = X.K) (hu : X.A.units + 64 < cLine) (ha : PE X a (dE G W ma)) (hb : PE X b (dE G W mb)) : PT X (.Compare a [.Eq] [b] pos) (dT G W (tOf (eOp oEq ma mb))) := dt_cmp (op_eqD hu) (ops_eq hK) calm_eq ha hb (nomark _)
theorem dt_ne (hK : G.K = X.K) (hu : X.A.units + 64 < cLine) (ha : PE X a (dE G W ma)) (hb : PE X b (dE G W mb)) : PT X (.Compare a [.NotEq] [b] pos) (dT G W (tOf (eOp oNe ma mb))) := dt_cmp (op_neD hu) (ops_ne hK) calm_ne ha hb (nomark _)

/-! ### is None -/
def oIsN (x y : D) (st : Sto) : Out D := match y with
  | .non => .ok (.bl (match x with | .non => true | _ => false)) st
  | _ => .bad
def oNotN (x y : D) (st : Sto) : Out D := match y with
  | .non => .ok (.bl (match x with | .non => false | _ => true)) st
  | _ => .bad
theorem calm_isN (x y : D) (st : Sto) : Calm (oIsN x y st) := by unfold oIsN; split <;> trivial
theorem calm_notN (x y : D) (st : Sto) : Calm (oNotN x y st) := by unfold oNotN; split <;> trivial
theorem ops_isN : OpS X G (fun x y H Q => y = .non ∧ Q (.bl (decide (x = .non))) H) oIsN := by
  intro w st H x y dx dy Q rs rx ry h
  unfold oIsN at h
  split at h
  · cases ry
    refine ⟨rfl, ?_⟩
    cases rx <;> exact h.now rs (.bl _)
  · exact h.elim
theorem ops_notN : OpS X G (fun x y H Q => y = .non ∧ Q (.bl (!decide (x = .non))) H) oNotN := by
  intro w st H x y dx dy Q rs rx ry h
  unfold oNotN at h
  split at h
  · cases ry
    refine ⟨rfl, ?_⟩
    cases rx <;> exact h.now rs (.bl _)
  · exact h.elim
theorem de_isN (ha : PE X a (dE G W ma)) (hb : PE X b (dE G W mb)) : PE X (.Compare a [.Is] [b] pos) (dE G W (eOp oIsN ma mb)) := de_cmp op_isN ops_isN calm_isN ha hb (nomark _)
theorem de_notN (ha : PE X a (dE G W ma)) (hb : PE X b (dE G W mb)) : PE X (.Compare a [.IsNot] [b] pos) (dE G W (eOp oNotN ma mb)) := de_cmp op_notN ops_notN calm_notN ha hb (nomark _)
theorem dt_isN (ha : PE X a (dE G W ma)) (hb : PE X b (dE G W mb)) : PT X (.Compare a [.Is] [b] pos) (dT G W (tOf (eOp oIsN ma mb))) := dt_cmp op_isN ops_isN calm_isN ha hb (nomark _)
theorem dt_notN (ha : PE X a (dE G W ma)) (hb : PE X b (dE G W mb)) : PT X (.Compare a [.IsNot] [b] pos) (dT G W (tOf (eOp oNotN ma mb))) := dt_cmp op_notN ops_notN calm_notN ha hb (nomark _)
end
end DL

set_option Elab.async false
set_option linter.all false
set_option maxRecDepth 100000
set_option maxHeartbeats 2000000
namespace DL
open PySem PySem.Spec PyProof.Rows L2
/-! ### names of the module -/
def KRep (G : Gr) (u : Value) (d : D) : Prop := ∃ v, RelV v u ∧ ∀ w H, Rep G.K w H v d
section
variable {X : Cx} {G : Gr} {W : WX} {a b e o : Expr} {es : List Expr} {ma mb me mo : EM D} {mr : EM (List D)} {pos p : Pos}
theorem de_glob {x : Str} {u : Value} {d : D} (hg : Gl X x) (hm : X.mg x = some u) (r : KRep G u d) (hd : (x == ("__debug__" : Str)) = false := by decide) : PE X (.Name x pos) (dE G W (eC d)) := by
  obtain ⟨v, rv, rep⟩ := r
  exact PE.imp (pe_glob hg hm rv hd) fun σ H Q ⟨w, env, st, rs, re, h⟩ => h.now rs (rep w H)
theorem krep_str {x : Str} {t : Tok} : KRep G (.str x t) (.str x) := ⟨.str x, ⟨t, rfl⟩, fun _ _ => .str x⟩
theorem krep_int {i : Int} {t : Tok} : KRep G (.int i t) (.int i) := ⟨.int i, ⟨t, rfl⟩, fun _ _ => .int i⟩
theorem krep_tup {q : Addr} {o : Obj} {its : List Value} {n : Nat} {xs : List V} {ds : List D} (hl : G.K.lookup q = some o) (hc : o.cls = .type "tuple") (hd : o.data = .seq its.toArray n) (hz : its.length ≤ sizeLine) (hv : Vals xs its) (hr : ∀ w H, Reps G.K w H xs ds) : KRep G (.ref q) (.tup ds) :=
  ⟨.ref q, rfl, fun w H => .tup (.inr ⟨o, its.toArray, n, hl, hc, hd, by simpa using hz, by simpa using hv⟩) (hr w H)⟩

/-! ### flat values -/
def fv : D → Option V
  | .non => some .non
  | .bl b => some (.bl b)
  | .int i => some (.int i)
  | .str x => some (.str x)
  | _ => none
def fvs : List D → Option (List V)
  | [] => some []
  | d :: ds => (match fv d, fvs ds with
    | some v, some vs => some (v :: vs)
    | _, _ => none)
theorem Rep.fv {w : Wo} {H : Hp} {v u : V} {d : D} (r : Rep G.K w H v d) (h : fv d = some u) : v = u ∧ flatV v = true := by
  cases r with
  | non => cases h; exact ⟨rfl, rfl⟩
  | bl b => cases h; exact ⟨rfl, rfl⟩
  | int i => cases h; exact ⟨rfl, rfl⟩
  | str x => cases h; exact ⟨rfl, rfl⟩
  | _ => cases h
theorem Reps.fvs {w : Wo} {H : Hp} : ∀ {vs us : List V} {ds : List D}, Reps G.K w H vs ds → fvs ds = some us → vs = us ∧ vs.all flatV = true
  | _, _, _, .nil, h => by cases h; exact ⟨rfl, rfl⟩
  | _, us, d :: ds, .cons r t, h => by
    unfold DL.fvs at h
    split at h
    · rename_i v vs h1 h2
      cases h
      obtain ⟨e1, f1⟩ := Rep.fv r h1
      obtain ⟨e2, f2⟩ := Reps.fvs t h2
      subst e1 e2
      exact ⟨rfl, by rw [List.all_cons, f1, f2]; rfl⟩
    · cases h
/-- x in y: flat things in a list, a tuple; a sign in a text -/
def inO (neg : Bool) (x y : D) (st : Sto) : Out D := match y with
  | .str z => (match x with
    | .str s => (match s.cps.toList with
      | [c] => .ok (.bl (if neg then !decide (c ∈ z.cps.toList) else decide (c ∈ z.cps.toList))) st
      | _ => .bad)
    | _ => .bad)
  | y => (match seqOf st y with
    | some ds => (match fv x, fvs ds with
      | some u, some us => .ok (.bl (if neg then !inV u us else inV u us)) st
      | _, _ => .bad)
    | none => .bad)
theorem calm_in {neg : Bool} (x y : D) (st : Sto) : Calm (inO neg x y st) := by
  unfold inO
  split
  · split
    · split <;> trivial
    · trivial
  · split
    · split <;> trivial
    · trivial
theorem str_one {s : Str} {c : Nat} (h : s.cps.toList = [c]) : s = ⟨#[c]⟩ := by
  obtain ⟨x⟩ := s
  have h' : x.toList = [c] := h
  have : x = #[c] := by
    apply Array.toList_inj.mp
    exact h'
  rw [this]
def rSign (neg : Bool) : R2 := fun x y H Q => ∃ (c : Nat) (z : Str), x = .str ⟨#[c]⟩ ∧ y = .str z ∧ Q (.bl (if neg then !decide (c ∈ z.cps.toList) else decide (c ∈ z.cps.toList))) H
theorem ops_in (hK : G.K = X.K) (neg : Bool) : OpS X G (fun x y H Q => rIn X.K neg x y H Q ∨ rSign neg x y H Q) (inO neg) := by
  intro w st H x y dx dy Q rs rx ry h
  unfold inO at h
  split at h
  · rename_i z
    split at h
    · rename_i s
      split at h
      · rename_i c hc
        cases ry
        cases rx
        exact .inr ⟨c, z, by rw [str_one hc], rfl, h.now rs (.bl _)⟩
      · exact h.elim
    · exact h.elim
  · split at h
    · rename_i ds hs
      split at h
      · rename_i u us h1 h2
        obtain ⟨q, ys, rfl, hsq, r⟩ := ry.seq rs hs
        obtain ⟨e1, f1⟩ := rx.fv h1
        obtain ⟨e2, f2⟩ := r.fvs h2
        subst e1 e2
        rw [← hK]
        exact .inl ⟨q, ys, rfl, hsq, f1, f2, h.now rs (.bl _)⟩
      · exact h.elim
    · exact h.elim
theorem op_inS : OpR X (compareOp .In) (rSign false) := op_in_sign
theorem op_niS : OpR X (compareOp .NotIn) (rSign true) := by
  intro pins s σ H x y v u Q I rx ry h
  obtain ⟨c, z, e1, e2, q⟩ := h
  exact op_notIn_sign pins s σ H x y v u Q I rx ry ⟨c, z, e1, e2, q⟩
theorem de_in (hK : G.K = X.K) (ha : PE X a (dE G W ma)) (hb : PE X b (dE G W mb)) (hm : behindInMarks .In b = false := by rfl) : PE X (.Compare a [.In] [b] pos) (dE G W (eOp (inO false) ma mb)) := de_cmp (OpR.or op_in_seq op_inS) (ops_in hK false) calm_in ha hb hm
theorem de_nin (hK : G.K = X.K) (ha : PE X a (dE G W ma)) (hb : PE X b (dE G W mb)) (hm : behindInMarks .NotIn b = false := by rfl) : PE X (.Compare a [.NotIn] [b] pos) (dE G W (eOp (inO true) ma mb)) := de_cmp (OpR.or op_notIn_seq op_niS) (ops_in hK true) calm_in ha hb hm
theorem dt_in (hK : G.K = X.K) (ha : PE X a (dE G W ma)) (hb : PE X b (dE G W mb)) (hm : behindInMarks .In b = false := by rfl) : PT X (.Compare a [.In] [b] pos) (dT G W (tOf (eOp (inO false) ma mb))) := dt_cmp (OpR.or op_in_seq op_inS) (ops_in hK false) calm_in ha hb hm
theorem dt_nin (hK : G.K = X.K) (ha : PE X a (dE G W ma)) (hb : PE X b (dE G W mb)) (hm : behindInMarks .NotIn b = false := by rfl) : PT X (.Compare a [.NotIn] [b] pos) (dT G W (tOf (eOp (inO true) ma mb))) := dt_cmp (OpR.or op_notIn_seq op_niS) (ops_in hK true) calm_in ha hb hm

/-! ### items, slices -/
def ixO (x y : D) (st : Sto) : Out D := match y with
  | .int i => (match x with
    | .str z => if z.length ≤ 100000 then (match atI z.cps.toList i with
      | some c => .ok (.str ⟨#[c]⟩) st
      | none => .bad) else .bad
    | x => (match seqOf st x with
      | some ds => (match atI ds i with
        | some d => .ok d st
        | none => .bad)
      | none => .bad))
  | _ => .bad
theorem calm_ix (x y : D) (st : Sto) : Calm (ixO x y st) := by
  unfold ixO
  split
  · split
    · split
      · split <;> trivial
      · trivial
    · split
      · split <;> trivial
      · trivial
  · trivial
theorem Reps.atI {w : Wo} {H : Hp} {vs : List V} {ds : List D} {i : Int} {d : D} (r : Reps G.K w H vs ds) (h : L2.atI ds i = some d) : ∃ v, L2.atI vs i = some v ∧ Rep G.K w H v d := by
  unfold L2.atI at h ⊢
  rw [r.length]
  cases e : ixN ds.length i with
  | none => rw [e] at h; cases h
  | some j =>
    rw [e] at h
    exact r.get h
theorem ops_ix (hK : G.K = X.K) : OpS X G (rIx X.K) ixO := by
  intro w st H x y dx dy Q rs rx ry h
  unfold ixO at h
  split at h
  · rename_i i
    cases ry
    split at h
    · rename_i z
      cases rx
      split at h
      · rename_i hl
        split at h
        · rename_i c hc
          exact .inr (.inr ⟨z, i, c, rfl, rfl, le_line hl, hc, h.now rs (.str _)⟩)
        · exact h.elim
      · exact h.elim
    · split at h
      · rename_i ds hs
        split at h
        · rename_i d hd
          obtain ⟨q, ys, rfl, hsq, r⟩ := rx.seq rs hs
          obtain ⟨v, hv, rv⟩ := r.atI hd
          rw [← hK]
          rcases hsq with hsq | hsq
          · exact .inl ⟨q, ys, i, v, rfl, rfl, hsq, hv, h.now rs rv⟩
          · exact .inr (.inl ⟨q, ys, i, v, rfl, rfl, hsq, hv, h.now rs rv⟩)
        · exact h.elim
      · exact h.elim
  · exact h.elim
theorem de_item (hK : G.K = X.K) (ha : PE X a (dE G W ma)) (hb : PE X b (dE G W mb)) (hp : PlainIx b := by exact fun _ _ => rfl) : PE X (.Subscript a b pos) (dE G W (eOp ixO ma mb)) := de_ix ix_seq (ops_ix hK) calm_ix ha hb hp
def cutD (xs : List D) (lo hi : Option Int) : List D := (xs.drop (HT.sIx xs.length 0 lo)).take (HT.sIx xs.length xs.length hi - HT.sIx xs.length 0 lo)
theorem Reps.cut {w : Wo} {H : Hp} {vs : List V} {ds : List D} (r : Reps G.K w H vs ds) (lo hi : Option Int) : Reps G.K w H (cutV vs lo hi) (cutD ds lo hi) := by
  unfold cutV cutD
  rw [r.length]
  exact (r.drop _).take _
def slO (x : D) (lo hi : Option Int) (st : Sto) : Out D := match x with
  | .str z => if z.length ≤ 100000 then .ok (.str (cutS z lo hi)) st else .bad
  | .tup ds => .ok (.tup (cutD ds lo hi)) st
  | x => (match seqOf st x with
    | some ds => .ok (.lst (cutD ds lo hi)) st
    | none => .bad)
end
end DL

set_option Elab.async false
set_option linter.all false
set_option maxRecDepth 100000
set_option maxHeartbeats 2000000
namespace DL
open PySem PySem.Spec PyProof.Rows L2
section
variable {X : Cx} {G : Gr} {W : WX} {a b e o : Expr} {es : List Expr} {ma mb me mo : EM D} {mr : EM (List D)} {pos p p2 : Pos} {lo hi : Option Expr}
/-! ### slices -/
theorem PO.imp {e : Option Expr} {t t' : TO} (h : PO X e t) (i : ∀ σ H Q, t' σ H Q → t σ H Q) : PO X e t' := ⟨fun pins s σ H Q I q => h.run pins s σ H Q I (i σ H Q q)⟩
abbrev FitO (G : Gr) := Fit G (fun _ _ (b c : Option Int) => b = c)
def dO (G : Gr) (W : WX) (m : EM (Option Int)) : TO := fun σ H Q => ∃ w env st, RSt G.K G.T w st H ∧ REnv G.K w H env σ ∧ FitO G w H Q (fun c d H' => W c d σ H') (m env st)
def pN : EM (Option Int) := fun _ st => .ok none st
def toI (d : D) (st : Sto) : Out (Option Int) := match d with
  | .int i => .ok (some i) st
  | _ => .bad
def pI (m : EM D) : EM (Option Int) := fun env st => bnd (m env st) toI
theorem do_none : PO X none (dO G W pN) := PO.imp po_none fun σ H Q ⟨w, env, st, rs, re, h⟩ => h w H none rs (Ext.refl _ _) rfl
theorem do_some (h : PE X e (dE G W me)) : PO X (some e) (dO G W (pI me)) := PO.imp (po_some h) fun σ H Q ⟨w, env, st, rs, re, h⟩ => by
  refine ⟨w, env, st, rs, re, Fit.bind h fun d st1 w1 H1 v rs1 e1 rv h1 => ?_⟩
  cases rv with
  | int i => exact ⟨i, rfl, h1 w1 H1 _ rs1 (Ext.refl _ _) rfl⟩
  | _ => exact h1.elim
def eSl (me : EM D) (ml mh : EM (Option Int)) : EM D := fun env st => bnd (me env st) fun d st => bnd (ml env st) fun l st => bnd (mh env st) fun u st => slO d l u st
theorem calm_sl (x : D) (l h : Option Int) (st : Sto) : Calm (slO x l h st) := by
  unfold slO
  split
  · split <;> trivial
  · trivial
  · split <;> trivial
theorem sls {w : Wo} {st : Sto} {H : Hp} {x : V} {dx : D} {l h : Option Int} {Q : VK} (hK : G.K = X.K) (rs : RSt G.K G.T w st H) (rx : Rep G.K w H x dx) (hf : FitD G w H Q E0 (slO dx l h st)) : rSlL X.K x l h H Q ∨ rSlA X.K x l h H Q ∨ rSlS x l h H Q := by
  unfold slO at hf
  split at hf
  · rename_i z
    cases rx
    split at hf
    · rename_i hl
      exact .inr (.inr ⟨z, rfl, le_line hl, hf.now rs (.str _)⟩)
    · exact hf.elim
  · rename_i ds
    cases rx with
    | @tup q xs _ f r =>
    refine .inr (.inl ⟨q, xs, rfl, by rw [← hK]; exact f.sq, fun hw => ?_, fun hw p hp => ?_⟩)
    · have ed : cutD ds l h = ds := by
        unfold cutD
        rw [← r.length, hw.1, hw.2, List.drop_zero, r.length, Nat.sub_zero, List.take_length]
      rw [ed] at hf
      exact hf.now rs (.tup f r)
    · obtain ⟨k1, k2, k3⟩ := rs.newT hp (r.cut l h)
      exact hf _ _ _ k1 k2 k3
  · rename_i hns hnt
    split at hf
    · rename_i ds hs
      obtain ⟨q, ys, rfl, hsq, r⟩ := rx.seq rs hs
      rcases hsq with hsq | hsq
      · refine .inl ⟨q, ys, rfl, by rw [← hK]; exact hsq, fun p hp => ?_⟩
        obtain ⟨k1, k2, k3⟩ := rs.newL hp (r.cut l h)
        exact hf _ _ _ k1 k2 k3
      · cases rx with
        | tup f r2 => exact (hnt _ rfl).elim
        | dic _ _ => cases hs
        | fn _ _ _ => cases hs
        | lst f r2 =>
          refine .inl ⟨q, _, rfl, by rw [← hK]; exact f.sq, fun p hp => ?_⟩
          cases hs
          obtain ⟨k1, k2, k3⟩ := rs.newL hp (r2.cut l h)
          exact hf _ _ _ k1 k2 k3
        | cel f =>
          rename_i n
          obtain ⟨c, hc, xs, ex, r2⟩ := rs.at f
          have hs' : (st[n]?).map Cell.get = some ds := hs
          rw [hc] at hs'
          cases hs'
          refine .inl ⟨q, xs, rfl, by rw [← hK]; exact SqL.of ex, fun p hp => ?_⟩
          obtain ⟨k1, k2, k3⟩ := rs.newL hp (r2.cut l h)
          exact hf _ _ _ k1 k2 k3
        | scr f =>
          cases hs
          refine .inl ⟨q, _, rfl, by rw [← hK]; exact f.sq, fun p hp => ?_⟩
          obtain ⟨k1, k2, k3⟩ := rs.newL hp ((Reps.of_ints _).cut l h)
          exact hf _ _ _ k1 k2 k3
    · exact hf.elim
theorem de_slice {ml mh : EM (Option Int)} (hK : G.K = X.K) (he : PE X e (dE G W me)) (hl : PO X lo (dO G W ml)) (hh : PO X hi (dO G W mh)) : PE X (.Subscript e (.Slice lo hi none p2) pos) (dE G W (eSl me ml mh)) :=
  PE.imp (pe_slice (SlR.or sl_list (SlR.or sl_tupA sl_str)) he hl hh) fun σ H Q ⟨w, env, st, rs, re, h⟩ => by
    refine ⟨w, env, st, rs, re, Fit.bind h fun d st1 w1 H1 v rs1 e1 rv h1 => ?_⟩
    refine ⟨w1, env, st1, rs1, re.ext e1, Fit.bind h1 fun l st2 w2 H2 l' rs2 e2 el h2 => ?_⟩
    subst el
    refine ⟨w2, env, st2, rs2, (re.ext e1).ext e2, Fit.bind h2 fun u st3 w3 H3 u' rs3 e3 eu h3 => ?_⟩
    subst eu
    exact sls hK rs3 ((rv.ext e2).ext e3) (fit_calm h3 (calm_sl _ _ _ _))

/-! ### built-ins -/
def lenO (ds : List D) (st : Sto) : Out D := match ds with
  | [.str z] => if z.length ≤ 100000 then .ok (.int z.length) st else .bad
  | [d] => (match seqOf st d with
    | some xs => .ok (.int xs.length) st
    | none => .bad)
  | _ => .bad
theorem calm_len (ds : List D) (st : Sto) : Calm (lenO ds st) := by
  unfold lenO
  split
  · split <;> trivial
  · split <;> trivial
  · trivial
theorem Reps.one {w : Wo} {H : Hp} {xs : List V} {d : D} (r : Reps G.K w H xs [d]) : ∃ v, xs = [v] ∧ Rep G.K w H v d := by
  cases r with
  | cons r t => cases t; exact ⟨_, rfl, r⟩
theorem Reps.two {w : Wo} {H : Hp} {xs : List V} {d d' : D} (r : Reps G.K w H xs [d, d']) : ∃ v v', xs = [v, v'] ∧ Rep G.K w H v d ∧ Rep G.K w H v' d' := by
  cases r with
  | cons r t =>
    obtain ⟨v', rfl, r'⟩ := Reps.one t
    exact ⟨_, _, rfl, r, r'⟩
theorem calls_len (hK : G.K = X.K) : CallS G (fun xs H Q => (∃ p ys, xs = [.ref p] ∧ (SqL X.K H p ys ∨ SqT X.K H p ys) ∧ Q (.int ys.length) H) ∨ (∃ z, xs = [.str z] ∧ z.length ≤ sizeLine ∧ Q (.int z.length) H)) lenO := by
  intro w st H xs ds Q rs r h
  unfold lenO at h
  split at h
  · rename_i z
    obtain ⟨v, rfl, rv⟩ := r.one
    cases rv
    split at h
    · rename_i hl
      exact .inr ⟨z, rfl, le_line hl, h.now rs (.int _)⟩
    · exact h.elim
  · rename_i d hd
    obtain ⟨v, rfl, rv⟩ := r.one
    split at h
    · rename_i zs hs
      obtain ⟨q, ys, rfl, hsq, rr⟩ := rv.seq rs hs
      rw [← rr.length] at h
      exact .inl ⟨q, ys, rfl, by rw [← hK]; exact hsq, h.now rs (.int _)⟩
    · exact h.elim
  · exact h.elim
theorem de_len (hK : G.K = X.K) (hg : Gl X "len") (hm : X.mg "len" = none) (ha : PA X (e :: es) (dA G W mr)) (he : starEach (e :: es) X.env = (false, eval e X.env) :: starEach es X.env := by rfl) (hpl : (backTo pos (starEach es X.env)).any (·.1) = false := by rfl) : PE X (.Call (.Name "len" p) (e :: es) [] pos) (dE G W (eCB lenO mr)) :=
  de_callB (call_len_seq.or call_len_str) (calls_len hK) calm_len hg hm PySem.boot_len ha (he := he) (hpl := hpl)
/-- list(x): data, or a list that will be changed -/
def listO (ds : List D) (st : Sto) : Out D := match ds with
  | [d] => (match seqOf st d with
    | some xs => .ok (.lst xs) st
    | none => .bad)
  | _ => .bad
def listC (ds : List D) (st : Sto) : Out D := match ds with
  | [d] => (match seqOf st d with
    | some xs => .ok (.cel st.length) (st ++ [.lst xs])
    | none => .bad)
  | _ => .bad
def tupleO (ds : List D) (st : Sto) : Out D := match ds with
  | [d] => (match seqOf st d with
    | some xs => .ok (.tup xs) st
    | none => .bad)
  | _ => .bad
theorem calm_list (ds : List D) (st : Sto) : Calm (listO ds st) := by
  unfold listO
  split
  · split <;> trivial
  · trivial
theorem calm_listC (ds : List D) (st : Sto) : Calm (listC ds st) := by
  unfold listC
  split
  · split <;> trivial
  · trivial
theorem calm_tuple (ds : List D) (st : Sto) : Calm (tupleO ds st) := by
  unfold tupleO
  split
  · split <;> trivial
  · trivial
theorem calls_list (hK : G.K = X.K) : CallS G (fun xs H Q => ∃ p ys, xs = [.ref p] ∧ (SqL X.K H p ys ∨ SqT X.K H p ys) ∧ ∀ l, H l = none → Q (.ref l) (upd H l (.lst ys))) listO := by
  intro w st H xs ds Q rs r h
  unfold listO at h
  split at h
  · obtain ⟨v, rfl, rv⟩ := r.one
    split at h
    · rename_i zs hs
      obtain ⟨q, ys, rfl, hsq, rr⟩ := rv.seq rs hs
      refine ⟨q, ys, rfl, by rw [← hK]; exact hsq, fun l hl => ?_⟩
      obtain ⟨k1, k2, k3⟩ := rs.newL hl rr
      exact h _ _ _ k1 k2 k3
    · exact h.elim
  · exact h.elim
theorem calls_listC (hK : G.K = X.K) : CallS G (fun xs H Q => ∃ p ys, xs = [.ref p] ∧ (SqL X.K H p ys ∨ SqT X.K H p ys) ∧ ∀ l, H l = none → Q (.ref l) (upd H l (.lst ys))) listC := by
  intro w st H xs ds Q rs r h
  unfold listC at h
  split at h
  · obtain ⟨v, rfl, rv⟩ := r.one
    split at h
    · rename_i zs hs
      obtain ⟨q, ys, rfl, hsq, rr⟩ := rv.seq rs hs
      refine ⟨q, ys, rfl, by rw [← hK]; exact hsq, fun l hl => ?_⟩
      obtain ⟨k1, k2, k3⟩ := rs.newC hl rr
      exact h _ _ _ k1 k2 k3
    · exact h.elim
  · exact h.elim
theorem calls_tuple (hK : G.K = X.K) : CallS G (fun xs H Q => ∃ p ys, xs = [.ref p] ∧ ((SqL X.K H p ys ∧ ∀ l, H l = none → Q (.ref l) (upd H l (.tup ys))) ∨ (SqT X.K H p ys ∧ Q (.ref p) H))) tupleO := by
  intro w st H xs ds Q rs r h
  unfold tupleO at h
  split at h
  · rename_i d
    obtain ⟨v, rfl, rv⟩ := r.one
    split at h
    · rename_i zs hs
      rw [← hK]
      cases rv with
      | @tup q ys _ f rr =>
        cases hs
        exact ⟨q, ys, rfl, .inr ⟨f.sq, h.now rs (.tup f rr)⟩⟩
      | @lst q ys _ f rr =>
        cases hs
        refine ⟨q, ys, rfl, .inl ⟨f.sq, fun l hl => ?_⟩⟩
        obtain ⟨k1, k2, k3⟩ := rs.newT hl rr
        exact h _ _ _ k1 k2 k3
      | @cel q n f =>
        obtain ⟨c, hc, ys, ex, rr⟩ := rs.at f
        have hs' : (st[n]?).map Cell.get = some zs := hs
        rw [hc] at hs'
        cases hs'
        refine ⟨q, ys, rfl, .inl ⟨SqL.of ex, fun l hl => ?_⟩⟩
        obtain ⟨k1, k2, k3⟩ := rs.newT hl rr
        exact h _ _ _ k1 k2 k3
      | @scr q ns f =>
        cases hs
        refine ⟨q, _, rfl, .inl ⟨f.sq, fun l hl => ?_⟩⟩
        obtain ⟨k1, k2, k3⟩ := rs.newT hl (Reps.of_ints ns)
        exact h _ _ _ k1 k2 k3
      | _ => cases hs
    · exact h.elim
  · exact h.elim
theorem de_list (hK : G.K = X.K) (hg : Gl X "list") (hm : X.mg "list" = none) (ha : PA X (e :: es) (dA G W mr)) (he : starEach (e :: es) X.env = (false, eval e X.env) :: starEach es X.env := by rfl) (hpl : (backTo pos (starEach es X.env)).any (·.1) = false := by rfl) : PE X (.Call (.Name "list" p) (e :: es) [] pos) (dE G W (eCB listO mr)) :=
  de_callTy call_list_of (calls_list hK) calm_list hg hm (by decide +kernel) ha (he := he) (hpl := hpl)
theorem de_listC (hK : G.K = X.K) (hg : Gl X "list") (hm : X.mg "list" = none) (ha : PA X (e :: es) (dA G W mr)) (he : starEach (e :: es) X.env = (false, eval e X.env) :: starEach es X.env := by rfl) (hpl : (backTo pos (starEach es X.env)).any (·.1) = false := by rfl) : PE X (.Call (.Name "list" p) (e :: es) [] pos) (dE G W (eCB listC mr)) :=
  de_callTy call_list_of (calls_listC hK) calm_listC hg hm (by decide +kernel) ha (he := he) (hpl := hpl)
theorem de_tuple (hK : G.K = X.K) (hg : Gl X "tuple") (hm : X.mg "tuple" = none) (ha : PA X (e :: es) (dA G W mr)) (he : starEach (e :: es) X.env = (false, eval e X.env) :: starEach es X.env := by rfl) (hpl : (backTo pos (starEach es X.env)).any (·.1) = false := by rfl) : PE X (.Call (.Name "tuple" p) (e :: es) [] pos) (dE G W (eCB tupleO mr)) :=
  de_callTy call_tuple_of (calls_tuple hK) calm_tuple hg hm (by decide +kernel) ha (he := he) (hpl := hpl)
def absO (ds : List D) (st : Sto) : Out D := match ds with
  | [.int i] => .ok (.int (if i < 0 then -i else i)) st
  | _ => .bad
theorem de_abs (hg : Gl X "abs") (hm : X.mg "abs" = none) (ha : PA X (e :: es) (dA G W mr)) (he : starEach (e :: es) X.env = (false, eval e X.env) :: starEach es X.env := by rfl) (hpl : (backTo pos (starEach es X.env)).any (·.1) = false := by rfl) : PE X (.Call (.Name "abs" p) (e :: es) [] pos) (dE G W (eCB absO mr)) :=
  de_callB call_abs (fun w st H xs ds Q rs r h => by
    unfold absO at h
    split at h
    · rename_i i
      obtain ⟨v, rfl, rv⟩ := r.one
      cases rv
      exact ⟨i, rfl, h.now rs (.int _)⟩
    · exact h.elim) (fun ds st => by unfold absO; split <;> trivial) hg hm (by decide +kernel) ha (he := he) (hpl := hpl)
def intO (ds : List D) (st : Sto) : Out D := match ds with
  | [.int i] => .ok (.int i) st
  | [.bl k] => .ok (.int (if k then 1 else 0)) st
  | _ => .bad
theorem de_int1 (hg : Gl X "int") (hm : X.mg "int" = none) (ha : PA X (e :: es) (dA G W mr)) (he : starEach (e :: es) X.env = (false, eval e X.env) :: starEach es X.env := by rfl) (hpl : (backTo pos (starEach es X.env)).any (·.1) = false := by rfl) : PE X (.Call (.Name "int" p) (e :: es) [] pos) (dE G W (eCB intO mr)) :=
  de_callTy call_int1 (fun w st H xs ds Q rs r h => by
    unfold intO at h
    split at h
    · rename_i i
      obtain ⟨v, rfl, rv⟩ := r.one
      cases rv
      exact .inl ⟨i, rfl, h.now rs (.int _)⟩
    · rename_i k
      obtain ⟨v, rfl, rv⟩ := r.one
      cases rv
      exact .inr ⟨k, rfl, h.now rs (.int _)⟩
    · exact h.elim) (fun ds st => by unfold intO; split <;> trivial) hg hm (by decide +kernel) ha (he := he) (hpl := hpl)
/-- truths -/
def bls : List D → Option (List Bool)
  | [] => some []
  | .bl b :: ds => (bls ds).map (b :: ·)
  | _ :: _ => none
theorem Reps.bls {w : Wo} {H : Hp} : ∀ {vs : List V} {ds : List D} {bs : List Bool}, Reps G.K w H vs ds → bls ds = some bs → vs = bs.map V.bl
  | _, _, _, .nil, h => by cases h; rfl
  | _, d :: ds, bs, .cons r t, h => by
    cases r with
    | bl b =>
      unfold DL.bls at h
      cases q : DL.bls ds with
      | none => rw [q] at h; cases h
      | some cs =>
        rw [q] at h
        cases h
        rw [Reps.bls t q]
        rfl
    | _ => cases h
def allO (k : Bool) (ds : List D) (st : Sto) : Out D := match ds with
  | [d] => (match lstOf st d with
    | some xs => (match bls xs with
      | some bs => .ok (.bl (if k then bs.all id else bs.any id)) st
      | none => .bad)
    | none => .bad)
  | _ => .bad
theorem calm_all {k : Bool} (ds : List D) (st : Sto) : Calm (allO k ds st) := by
  unfold allO
  split
  · split
    · split <;> trivial
    · trivial
  · trivial
theorem calls_all (hK : G.K = X.K) (k : Bool) : CallS G (fun vs H Q => ∃ (a : Addr) (bs : List Bool), vs = [V.ref a] ∧ SqL X.K H a (bs.map V.bl) ∧ Q (.bl (if k then bs.all id else bs.any id)) H) (allO k) := by
  intro w st H xs ds Q rs r h
  unfold allO at h
  split at h
  · obtain ⟨v, rfl, rv⟩ := r.one
    split at h
    · rename_i zs hs
      split at h
      · rename_i bs hb
        obtain ⟨q, ys, rfl, hq, rr⟩ := rv.lstAt rs hs
        have e := rr.bls hb
        subst e
        exact ⟨q, bs, rfl, SqL.of hq, h.now rs (.bl _)⟩
      · exact h.elim
    · exact h.elim
  · exact h.elim
theorem de_all (hK : G.K = X.K) (hc : X.calm = true) (hg : Gl X "all") (hm : X.mg "all" = none) (ha : PA X (e :: es) (dA G W mr)) (he : starEach (e :: es) X.env = (false, eval e X.env) :: starEach es X.env := by rfl) (hpl : (backTo pos (starEach es X.env)).any (·.1) = false := by rfl) : PE X (.Call (.Name "all" p) (e :: es) [] pos) (dE G W (eCB (allO true) mr)) :=
  de_callB (cr_all hc) (calls_all hK true) calm_all hg hm (by decide +kernel) ha (he := he) (hpl := hpl)
theorem de_any (hK : G.K = X.K) (hc : X.calm = true) (hg : Gl X "any") (hm : X.mg "any" = none) (ha : PA X (e :: es) (dA G W mr)) (he : starEach (e :: es) X.env = (false, eval e X.env) :: starEach es X.env := by rfl) (hpl : (backTo pos (starEach es X.env)).any (·.1) = false := by rfl) : PE X (.Call (.Name "any" p) (e :: es) [] pos) (dE G W (eCB (allO false) mr)) :=
  de_callB (cr_any hc) (calls_all hK false) calm_all hg hm (by decide +kernel) ha (he := he) (hpl := hpl)

/-! ### stars in displays -/
def aStar (m : EM D) (mr : EM (List D)) : EM (List D) := fun env st => bnd (m env st) fun d st => match seqOf st d with
  | some xs => bnd (mr env st) fun ds st => .ok (xs ++ ds) st
  | none => .bad
theorem da_star (hK : G.K = X.K) (he : PE X e (dE G W me)) (hr : PA X es (dA G W mr)) (hs : starEach (.Starred e p :: es) X.env = (true, eval e X.env) :: starEach es X.env := by rfl) : PA X (.Starred e p :: es) (dA G W (aStar me mr)) :=
  PA.imp (StX.pa_star he hr hs) fun σ H Q ⟨w, env, st, rs, re, h⟩ => by
    refine ⟨w, env, st, rs, re, Fit.bind h fun d st1 w1 H1 v rs1 e1 rv h1 => ?_⟩
    split at h1
    · rename_i zs hz
      obtain ⟨q, ys, rfl, hsq, rr⟩ := rv.seq rs1 hz
      rw [← hK]
      refine ⟨q, ys, rfl, hsq.symm, w1, env, st1, rs1, re.ext e1, Fit.bind h1 fun ds st2 w2 H2 vs rs2 e2 rvs h2 => ?_⟩
      exact h2.now rs2 ((rr.ext e2).append rvs)
    · exact h1.elim

/-! ### methods of lists -/
def isCel (d : D) (st : Sto) : Bool := match d with
  | .cel n => (match st[n]? with
    | some _ => true
    | none => false)
  | _ => false
theorem tys_cel : TyS G "list" isCel := by
  intro w st H x dx rs rx h
  cases rx with
  | @cel q n f =>
    obtain ⟨c, hc, ys, ex, rr⟩ := rs.at f
    exact .inl ⟨rfl, ys, SqL.of ex⟩
  | _ => cases h
/-- the cell of a list that may change -/
def celAt (d : D) (st : Sto) : Option (Nat × List D) := match d with
  | .cel n => (match st[n]? with
    | some (.lst ds) => some (n, ds)
    | _ => none)
  | _ => none
theorem Rep.cell {w : Wo} {st : Sto} {H : Hp} {v : V} {d : D} {n : Nat} {ds : List D} (r : Rep G.K w H v d) (rs : RSt G.K G.T w st H) (h : celAt d st = some (n, ds)) : ∃ q xs, v = .ref q ∧ w.adr[n]? = some q ∧ st[n]? = some (.lst ds) ∧ H q = some (.lst xs) ∧ Reps G.K w H xs ds := by
  cases r with
  | @cel q m f =>
    unfold celAt at h
    dsimp only at h
    split at h
    · rename_i ds' hc
      obtain ⟨e1, e2⟩ := Prod.mk.inj (Option.some.inj h)
      subst e1 e2
      obtain ⟨xs, ex, rr⟩ := rs.cell _ q _ f hc
      exact ⟨q, xs, rfl, f, hc, ex, rr⟩
    · cases h
  | _ => cases h
def appO (x : D) (ds : List D) (st : Sto) : Out D := match ds with
  | [d] => (match celAt x st with
    | some (n, xs) => if xs.length < 100000 then .ok .non (st.set n (.lst (xs ++ [d]))) else .bad
    | none => .bad)
  | _ => .bad
theorem calm_app (x : D) (ds : List D) (st : Sto) : Calm (appO x ds st) := by
  unfold appO
  split
  · split
    · split <;> trivial
    · trivial
  · trivial
theorem lt_line {n : Nat} (h : n < 100000) : n < sizeLine := Nat.lt_of_lt_of_le h (by rw [sizeLine_eq]; omega)
theorem mets_app : MetS G "list" rAppend appO := by
  intro w st H x dx xs ds Q rs rx r h
  unfold appO at h
  split at h
  · rename_i d
    obtain ⟨v, rfl, rv⟩ := r.one
    split at h
    · rename_i n zs hc
      split at h
      · rename_i hl
        obtain ⟨q, ys, rfl, f, hst, hq, rr⟩ := rx.cell rs hc
        obtain ⟨k1, k2⟩ := rs.put f hst (rr.append (.cons rv .nil))
        exact ⟨q, ys, v, rfl, rfl, hq, lt_line (by rw [rr.length]; exact hl), h _ _ _ k1 k2 .non⟩
      · exact h.elim
    · exact h.elim
  · exact h.elim
theorem de_append {apos cpos : Pos} (hK : G.K = X.K) (ho : PE X o (dE G W mo)) (ha : PA X (e :: es) (dA G W mr)) (hbase : attributeBase o "append" X.env (eval o X.env) = eval o X.env := by rfl)
    (hfew : ((backTo cpos (starEach (e :: es) X.env)).all (fun x => !x.1) && (backToKw cpos (keywordEach [] X.env)).all (fun x => x.1.isSome) && decide ((e :: es).length + ([] : List Keyword).length + (if ([] : List Keyword).isEmpty then 0 else 1) < 30)) = true := by rfl)
    (hline : (apos.endLine == cpos.line) = true := by rfl) (hs : starEach (e :: es) X.env = (false, eval e X.env) :: starEach es X.env := by rfl) (hplain : (backTo cpos (starEach es X.env)).any (·.1) = false := by rfl) :
    PE X (.Call (.Attribute o "append" apos) (e :: es) [] cpos) (dE G W (eBM isCel appO mo mr)) :=
  de_bm hK PySem.F.plainAttrs_list PySem.F.slot_list_append PySem.F.type_list_append mt_append tys_cel mets_app calm_app ho ha hbase hfew hline hs hplain
def popO (x : D) (ds : List D) (st : Sto) : Out D := match ds with
  | [.int i] => (match celAt x st with
    | some (n, xs) => if -(2 ^ 63) ≤ i ∧ i < 2 ^ 63 then (match seqIndex? i xs.length with
      | some k => (match xs[k]? with
        | some y => .ok y (st.set n (.lst (xs.eraseIdx k)))
        | none => .bad)
      | none => .bad) else .bad
    | none => .bad)
  | _ => .bad
theorem calm_pop (x : D) (ds : List D) (st : Sto) : Calm (popO x ds st) := by
  unfold popO
  split
  · split
    · split
      · split
        · split <;> trivial
        · trivial
      · trivial
    · trivial
  · trivial
theorem mets_pop : MetS G "list" rPopAt popO := by
  intro w st H x dx xs ds Q rs rx r h
  unfold popO at h
  split at h
  · rename_i i
    obtain ⟨v, rfl, rv⟩ := r.one
    cases rv
    split at h
    · rename_i n zs hc
      split at h
      · rename_i hb
        split at h
        · rename_i k hk
          split at h
          · rename_i y hy
            obtain ⟨q, ys, rfl, f, hst, hq, rr⟩ := rx.cell rs hc
            obtain ⟨u, hu, ru⟩ := rr.get hy
            obtain ⟨k1, k2⟩ := rs.put f hst (rr.eraseIdx k)
            exact ⟨q, ys, i, k, u, rfl, rfl, hq, hb.1, hb.2, by rw [rr.length]; exact hk, hu, h _ _ _ k1 k2 (ru.ext k2)⟩
          · exact h.elim
        · exact h.elim
      · exact h.elim
    · exact h.elim
  · exact h.elim
theorem de_pop {apos cpos : Pos} (hK : G.K = X.K) (ho : PE X o (dE G W mo)) (ha : PA X (e :: es) (dA G W mr)) (hbase : attributeBase o "pop" X.env (eval o X.env) = eval o X.env := by rfl)
    (hfew : ((backTo cpos (starEach (e :: es) X.env)).all (fun x => !x.1) && (backToKw cpos (keywordEach [] X.env)).all (fun x => x.1.isSome) && decide ((e :: es).length + ([] : List Keyword).length + (if ([] : List Keyword).isEmpty then 0 else 1) < 30)) = true := by rfl)
    (hline : (apos.endLine == cpos.line) = true := by rfl) (hs : starEach (e :: es) X.env = (false, eval e X.env) :: starEach es X.env := by rfl) (hplain : (backTo cpos (starEach es X.env)).any (·.1) = false := by rfl) :
    PE X (.Call (.Attribute o "pop" apos) (e :: es) [] cpos) (dE G W (eBM isCel popO mo mr)) :=
  de_bm hK PySem.F.plainAttrs_list PySem.F.slot_list_pop PySem.F.type_list_pop mt_popAt tys_cel mets_pop calm_pop ho ha hbase hfew hline hs hplain
end
end DL

set_option Elab.async false
set_option linter.all false
set_option maxRecDepth 100000
set_option maxHeartbeats 2000000
namespace DL
open PySem PySem.Spec PyProof.Rows L2
/-! ### comprehensions -/
def wipeE (env : Env') : List Nat → Env'
  | [] => env
  | v :: vs => (wipeE env vs).set v none
theorem REnv.setNone {K : PySem.W.Frag} {w : Wo} {H : Hp} {env : Env'} {σ : L2.St} (i : Nat) (r : REnv K w H env σ) : REnv K w H (env.set i none) (σ.set i none) := by
  refine ⟨by simpa using r.1, fun j d h => ?_⟩
  by_cases e : i = j
  · subst e
    by_cases hi : i < env.length
    · rw [List.getElem?_set_self hi] at h
      cases h
    · rw [List.getElem?_eq_none (by simpa using Nat.le_of_not_lt hi)] at h
      cases h
  · rw [List.getElem?_set_ne e] at h
    obtain ⟨v', h1, h2⟩ := r.2 j d h
    exact ⟨v', by rw [List.getElem?_set_ne e]; exact h1, h2⟩
theorem REnv.wipe {K : PySem.W.Frag} {w : Wo} {H : Hp} {env : Env'} {σ : L2.St} (r : REnv K w H env σ) : ∀ vs : List Nat, REnv K w H (wipeE env vs) (L2.wipe σ vs)
  | [] => r
  | v :: vs => (REnv.wipe r vs).setNone v
theorem wipe_get (σ : L2.St) : ∀ (vs : List Nat) (i : Nat), (L2.wipe σ vs)[i]? = if i ∈ vs then (if i < σ.length then some none else none) else σ[i]?
  | [], i => by simp [L2.wipe]
  | v :: vs, i => by
    unfold L2.wipe
    by_cases e : v = i
    · subst e
      rw [if_pos (List.mem_cons_self ..)]
      by_cases hl : v < (L2.wipe σ vs).length
      · rw [List.getElem?_set_self hl, if_pos (by rw [← L2.wipe_length σ vs]; exact hl)]
      · rw [List.getElem?_eq_none (by simpa using Nat.le_of_not_lt hl), if_neg (by rw [← L2.wipe_length σ vs]; exact hl)]
    · rw [List.getElem?_set_ne e, wipe_get σ vs i]
      have : (i ∈ v :: vs) ↔ i ∈ vs := by
        rw [List.mem_cons]
        exact ⟨fun h => h.elim (fun z => (e z.symm).elim) id, .inr⟩
      by_cases hm : i ∈ vs
      · rw [if_pos hm, if_pos (this.mpr hm)]
      · rw [if_neg hm, if_neg fun z => hm (this.mp z)]
theorem wipe_fr {vs us : List Nat} {σ σ' : L2.St} (f : Fr us σ σ') (h : ∀ i ∈ us, i ∈ vs) : L2.wipe σ' vs = L2.wipe σ vs := by
  apply List.ext_getElem?
  intro i
  rw [wipe_get, wipe_get, f.1]
  by_cases hm : i ∈ vs
  · rw [if_pos hm, if_pos hm]
  · rw [if_neg hm, if_neg hm]
    exact f.2 i fun z => hm (h i z)
theorem wipe_wipe (vs : List Nat) (σ : L2.St) : L2.wipe (L2.wipe σ vs) vs = L2.wipe σ vs := by
  apply List.ext_getElem?
  intro i
  rw [wipe_get, wipe_get, L2.wipe_length]
  by_cases hm : i ∈ vs
  · rw [if_pos hm, if_pos hm]
  · rw [if_neg hm]
def lcM (g : GM) (mt : EM Bool) (me : EM D) (env0 : Env') : List D → List D → Sto → Out D
  | [], acc, st => .ok (.lst acc) st
  | d :: ds, acc, st => match g d env0 st with
    | none => .bad
    | some (env2, st2) => (match mt env2 st2 with
      | .ok b st3 => if b then (match me env2 st3 with
          | .ok y st4 => if acc.length < 100000 then lcM g mt me env0 ds (acc ++ [y]) st4 else .bad
          | _ => .bad) else lcM g mt me env0 ds acc st3
      | _ => .bad)
def eLc (mi : EM (List D)) (g : GM) (mt : EM Bool) (me : EM D) (vs : List Nat) : EM D := fun env st => bnd (mi env st) fun ds st => lcM g mt me (wipeE env vs) ds [] st
def tT : EM Bool := fun _ st => .ok true st
/-- a list that is being made: it may change, and is no cell -/
def Wo.plus (w : Wo) (p : Addr) : Wo := ⟨w.adr, fun a => w.liv a ∨ a = p⟩
section
variable {G : Gr}
abbrev WF : WX := fun _ _ _ _ => False
theorem dlc {W : WX} {mi : EM (List D)} {g : GM} {mt : EM Bool} {me : EM D} {vs us : List Nat} (hu : ∀ i ∈ us, i ∈ vs) {σ : L2.St} {H : Hp} {Q : VK} (h : dE G W (eLc mi g mt me vs) σ H Q) : tLc (dI G W mi) (dGv G g us) (dT G WF mt) (dE G WF me) vs σ H Q := by
  obtain ⟨w, env, st, rs, re, h⟩ := h
  refine ⟨w, env, st, rs, re, Fit.bind h fun ds st1 w1 H1 J rs1 e1 wk h1 => fun P hP => ?_⟩
  have re1 := re.ext e1
  refine ⟨fun i m H' => m = ds.length - i ∧ i ≤ ds.length ∧ ∃ w' st' xs acc, RSt G.K G.T w' st' H' ∧ Ext w1 H1 w' H' ∧ w'.liv P ∧ (∀ n : Nat, w'.adr[n]? ≠ some P) ∧ H' P = some (.lst xs) ∧ Reps G.K w' H' xs acc ∧
      FitD G w1 H1 Q (fun c d H' => W c d σ H') (lcM g mt me (wipeE env vs) (ds.drop i) acc st'),
    ⟨ds.length, by simp, Nat.zero_le _, w1.plus P, st1, [], [], ?_, ?_, .inr rfl, fun n => rs1.notIn hP, upd_same, .nil, h1⟩, ?_⟩
  · refine ⟨rs1.len, rs1.nd, fun a l => ?_, fun n a zs g1 g2 => .inl (rs1.livL n a zs g1 g2), fun n a zs g1 g2 l => ?_, fun n a c g1 g2 => ?_, rs1.tab.ext fun b u hb => by rw [upd_ne (ne_of_none hb hP)]; exact hb⟩
    · rcases l with l | l
      · obtain ⟨zs, ez⟩ := rs1.livH a l
        exact ⟨zs, by rw [upd_ne (ne_of_none ez hP)]; exact ez⟩
      · rw [l]
        exact ⟨[], upd_same⟩
    · rcases l with l | l
      · exact rs1.livF n a zs g1 g2 l
      · rw [l] at g1
        exact rs1.notIn hP g1
    · obtain ⟨zs, ez, q⟩ := rs1.cell n a c g1 g2
      have e00 : Ext0 w1 H1 (w1.plus P) (upd H1 P (.lst [])) := by
        refine ⟨fun _ _ z => z, fun b u hb nl _ => ⟨by rw [upd_ne (ne_of_none hb hP)]; exact hb, fun z => ?_⟩⟩
        rcases z with z | z
        · exact nl z
        · exact ne_of_none hb hP z
      exact ⟨zs, by rw [upd_ne (ne_of_none ez hP)]; exact ez, q.ext0 e00⟩
  · refine ⟨⟨fun _ _ z => z, fun b u hb nl _ => ⟨by rw [upd_ne (ne_of_none hb hP)]; exact hb, fun z => ?_⟩⟩, fun b u l nn hb => ⟨by rw [upd_ne (ne_of_none hb hP)]; exact hb, .inl l, nn⟩⟩
    rcases z with z | z
    · exact nl z
    · exact ne_of_none hb hP z
  · rintro i m H' ⟨rfl, hle, w', st', xs, acc, rs', e', lP, nP, hxs, racc, h'⟩
    by_cases hlt : i < ds.length
    · have hd : ds[i]? = some ds[i] := List.getElem?_eq_getElem hlt
      obtain ⟨go, yl⟩ := (wk i w' H' e').1 _ hd
      refine .inr ⟨go, fun H2 => ∃ w2 st2 xs2 acc2, RSt G.K G.T w2 st2 H2 ∧ Ext w1 H1 w2 H2 ∧ w2.liv P ∧ (∀ n : Nat, w2.adr[n]? ≠ some P) ∧ H2 P = some (.lst xs2) ∧ Reps G.K w2 H2 xs2 acc2 ∧
        FitD G w1 H1 Q (fun c d H' => W c d σ H') (lcM g mt me (wipeE env vs) (ds.drop (i + 1)) acc2 st2), fun H2 q => ⟨ds.length - (i + 1), by omega, rfl, hlt, q⟩, fun x H2 y => ?_⟩
      obtain ⟨k1, k2, k3⟩ := yl x H2 y st' rs'
      obtain ⟨p1, p2, p3⟩ := k2.frn P _ lP nP hxs
      rw [List.drop_eq_getElem_cons hlt] at h'
      refine ⟨w', wipeE env vs, st', ds[i], k1, ((re1.ext e').ext k2).wipe vs, k3, ?_⟩
      unfold lcM at h'
      cases q : g ds[i] (wipeE env vs) st' with
      | none => rw [q] at h'; exact h'
      | some pr =>
        obtain ⟨env2, st2⟩ := pr
        rw [q] at h'
        dsimp only at h' ⊢
        intro w2 H3 σ2 rs2 e2 re2 f2
        refine ⟨by rw [wipe_fr f2 hu, wipe_wipe], w2, env2, st2, rs2, re2, ?_⟩
        cases q2 : mt env2 st2 with
        | err _ _ _ => rw [q2] at h'; exact h'.elim
        | bad => rw [q2] at h'; exact h'
        | ok b st3 =>
          rw [q2] at h'
          dsimp only at h'
          intro w3 H4 b' rs3 e3 eb
          subst eb
          have ee := ((e'.trans k2).trans e2).trans e3
          obtain ⟨r1, r2, r3⟩ := (e2.trans e3).frn P _ p2 p3 p1
          cases b' with
          | false =>
            exact ⟨w3, st3, xs, acc, rs3, ee, r2, r3, r1, ((racc.ext k2).ext e2).ext e3, h'⟩
          | true =>
            rw [if_pos rfl]
            rw [if_pos rfl] at h'
            refine ⟨w3, env2, st3, rs3, re2.ext e3, ?_⟩
            cases q3 : me env2 st3 with
            | err _ _ _ => rw [q3] at h'; exact h'.elim
            | bad => rw [q3] at h'; exact h'
            | ok yd st4 =>
              rw [q3] at h'
              dsimp only at h'
              intro w4 H5 yv rs4 e4 ry
              obtain ⟨t1, t2, t3⟩ := e4.frn P _ r2 r3 r1
              have racc4 := (((racc.ext k2).ext e2).ext e3).ext e4
              by_cases hl : acc.length < 100000
              · rw [if_pos hl] at h'
                have e0 : Ext0 w4 H5 w4 (upd H5 P (.lst (xs ++ [yv]))) := ⟨fun _ _ z => z, fun b u hb nl _ => ⟨by rw [upd_ne (fun z : b = P => nl (z ▸ t2))]; exact hb, nl⟩⟩
                refine ⟨xs, t1, lt_line (by rw [racc.length]; exact hl), w4, st4, xs ++ [yv], acc ++ [yd], ?_, ?_, t2, t3, upd_same, (racc4.ext0 e0).append (.cons (ry.ext0 e0) .nil), h'⟩
                · refine ⟨rs4.len, rs4.nd, fun a l => ?_, rs4.livL, rs4.livF, fun n a c g1 g2 => ?_, tabs_put rs4.tab t1⟩
                  · by_cases ea : a = P
                    · rw [ea]; exact ⟨_, upd_same⟩
                    · obtain ⟨zs, ez⟩ := rs4.livH a l
                      exact ⟨zs, by rw [upd_ne ea]; exact ez⟩
                  · obtain ⟨zs, ez, qz⟩ := rs4.cell n a c g1 g2
                    exact ⟨zs, by rw [upd_ne (fun z : a = P => t3 n (z ▸ g1))]; exact ez, qz.ext0 e0⟩
                · have e5 := ee.trans e4
                  exact ⟨⟨e5.pre, fun b u hb nl nt => let ⟨z1, z2⟩ := e5.keep b u hb nl nt; ⟨by rw [upd_ne (ne_of_none hb hP)]; exact z1, z2⟩⟩, fun b u l nn hb => let ⟨z1, z2, z3⟩ := e5.frn b u l nn hb; ⟨by rw [upd_ne (ne_of_none hb hP)]; exact z1, z2, z3⟩⟩
              · rw [if_neg hl] at h'
                exact h'.elim
    · have ei : i = ds.length := by omega
      refine .inl ⟨(wk i w' H' e').2 ei, ?_⟩
      rw [ei, List.drop_length] at h'
      have e0 : Ext0 w' H' (w'.drop P) H' := ⟨fun _ _ z => z, fun b u hb nl _ => ⟨hb, fun z => nl z.1⟩⟩
      refine h' (w'.drop P) H' (.ref P) ⟨rs'.len, rs'.nd, fun a l => rs'.livH a l.1, fun n a zs g1 g2 => ⟨rs'.livL n a zs g1 g2, fun z => nP n (z ▸ g1)⟩, fun n a zs g1 g2 l => rs'.livF n a zs g1 g2 l.1, fun n a c g1 g2 => ?_, rs'.tab⟩ ?_ (.lst ⟨hxs, fun z => z.2 rfl⟩ (racc.ext0 e0))
      · obtain ⟨zs, ez, qz⟩ := rs'.cell n a c g1 g2
        exact ⟨zs, ez, qz.ext0 e0⟩
      · exact ⟨⟨e'.pre, fun b u hb nl nt => let ⟨z1, z2⟩ := e'.keep b u hb nl nt; ⟨z1, fun z => z2 z.1⟩⟩, fun b u l nn hb => let ⟨z1, z2, z3⟩ := e'.frn b u l nn hb; ⟨z1, ⟨z2, ne_of_none hb hP⟩, z3⟩⟩
end
section
variable {X : Cx} {G : Gr} {W : WX} {elt tg iter : Expr} {ifs : List Expr} {scope : Scope} {own : List (Str × Nat)} {pos : Pos} {mi : EM (List D)} {g : GM} {mt : EM Bool} {me : EM D} {us : List Nat}
theorem dts_nil : PTs X [] (dT G W tT) := ⟨fun pins s σ H Q I h => (pts_nil (X := X)).run pins s σ H Q I (by
  obtain ⟨w, env, st, rs, re, h⟩ := h
  exact h w H true rs (Ext.refl _ _) rfl)⟩
theorem dts_one {c : Expr} (h : PT X c (dT G W mt)) : PTs X [c] (dT G W mt) := pts_one h
theorem PEx.imp {e : Expr} {t t' : TE} (h : PE X e t) (i : ∀ σ H Q, t' σ H Q → t σ H Q) : PE X e t' := PE.imp h i
theorem de_lc (own : List (Str × Nat)) (hc : X.calm = true) (hN : X.N.Nodup) (hi : PI X tg iter (dI G W mi)) (ok : BlkOk X.N X.env.scope scope own) (hu : ∀ i ∈ us, i ∈ own.map (·.2))
    (hg : ∀ (s : Shared) (H : Hp) (C : Addr) (cl : List (Str × Addr)) (fp : List Addr), PG (X.blk s H scope (compEnvC scope cl C X.env) fp) tg (dGv G g us))
    (ht : ∀ (s : Shared) (H : Hp) (C : Addr) (cl : List (Str × Addr)) (fp : List Addr), PTs (X.blk s H scope (compEnvC scope cl C X.env) fp) ifs (dT G WF mt))
    (he : ∀ (s : Shared) (H : Hp) (C : Addr) (cl : List (Str × Addr)) (fp : List Addr), PE (X.blk s H scope (compEnvC scope cl C X.env) fp) elt (dE G WF me)) (hs : ∀ x, foldedSetIterable iter X.env x = pure x := by intro _; rfl) :
    PE X (.ListComp elt [⟨tg, iter, ifs, 0⟩] scope pos) (dE G W (eLc mi g mt me (own.map (·.2)))) := PE.imp (pe_lc hc hN hi ok hg ht he hs) fun _ _ _ q => dlc hu q
theorem ds_setLc {i : Nat} {y : Str} {py spos : Pos} (own : List (Str × Nat)) (hc : X.calm = true) (hN : X.N.Nodup) (hy : X.N[i]? = some y) (hyl : X.env.scope.names.lookup y = some .local)
    (hsw : swapsWith (.ListComp elt [⟨tg, iter, ifs, 0⟩] scope pos) (some (.Name y py)) spos.line X.env = pure true) (hi : PI X tg iter (dI G W mi)) (ok : BlkOk X.N X.env.scope scope own) (hu : ∀ i ∈ us, i ∈ own.map (·.2))
    (hg : ∀ (s : Shared) (H : Hp) (C : Addr) (cl : List (Str × Addr)) (fp : List Addr), PG (X.blk s H scope (compEnvC scope cl C X.env) fp) tg (dGv G g us))
    (ht : ∀ (s : Shared) (H : Hp) (C : Addr) (cl : List (Str × Addr)) (fp : List Addr), PTs (X.blk s H scope (compEnvC scope cl C X.env) fp) ifs (dT G WF mt))
    (he : ∀ (s : Shared) (H : Hp) (C : Addr) (cl : List (Str × Addr)) (fp : List Addr), PE (X.blk s H scope (compEnvC scope cl C X.env) fp) elt (dE G WF me)) (hs : ∀ x, foldedSetIterable iter X.env x = pure x := by intro _; rfl) :
    PS X (.Assign [.Name y py] (.ListComp elt [⟨tg, iter, ifs, 0⟩] scope pos) spos) (dS G W (sAsg (eLc mi g mt me (own.map (·.2))) (gN i))) := PS.imp (ps_setLc hc hN hy hyl hsw hi ok hg ht he hs) fun Dn σ H ⟨w, env, st, rs, re, h⟩ => by
  refine dlc hu ⟨w, env, st, rs, re, FitS.bind re h fun d st1 w1 H1 v rs1 e1 rv h1 => ?_⟩
  exact h1 w1 H1 _ rs1 (Ext.refl _ _) ((re.ext e1).set i rv)
end

/-! ### isinstance of built-in classes -/
def tyN : D → String
  | .non => "NoneType"
  | .bl _ => "bool"
  | .int _ => "int"
  | .str _ => "str"
  | .lst _ => "list"
  | .cel _ => "list"
  | .scr _ => "list"
  | .tup _ => "tuple"
  | .dic => "dict"
  | .fn _ _ _ _ _ => ""
def isFn : D → Bool
  | .fn _ _ _ _ _ => true
  | _ => false
theorem Rep.ty {G : Gr} {w : Wo} {st : Sto} {H : Hp} {v : V} {d : D} (rs : RSt G.K G.T w st H) (r : Rep G.K w H v d) (hf : isFn d = false) : TyX G.K H v (.type (tyN d)) := by
  cases r with
  | fn _ _ _ => cases hf
  | dic f _ => exact .base (.dK f)
  | non => exact .base .non
  | bl b => exact .base (.bl b)
  | int i => exact .base (.int i)
  | str x => exact .base (.str x)
  | lst f q => exact .base (.lst f.1)
  | tup f q =>
    rcases f with ⟨f, _⟩ | ⟨o, its, n, h1, h2, _⟩
    · exact .base (.tup f)
    · exact .kTuple h1 h2
  | cel f =>
    obtain ⟨c, hc, xs, ex, q⟩ := rs.at f
    exact .base (.lst ex)
  | scr f =>
    rcases f with ⟨f | ⟨o, f⟩, _⟩ | ⟨o, its, n, h1, h2, _⟩
    · exact .base (.lst f)
    · exact .base (.frz f)
    · exact .kList h1 h2
def isaB (t : String) (T : String) : Bool := decide (t = T) || (decide (t = "bool") && decide (T = "int"))
/-- the classes that are asked for here -/
def tyKnown (T : String) : Bool := ["int", "bool", "str", "list", "tuple", "dict"].contains T
theorem isa_kit {K : PySem.W.Frag} (d : D) {T : String} (h : tyKnown T = true) (hf : isFn d = false) : PySem.W.kitOne K (.type (tyN d)) (.type T) = some (isaB (tyN d) T) := by
  have h' : T = "int" ∨ T = "bool" ∨ T = "str" ∨ T = "list" ∨ T = "tuple" ∨ T = "dict" := by simpa [tyKnown] using h
  have key : ∀ t ∈ ["NoneType", "bool", "int", "str", "list", "tuple", "dict"], ∀ T ∈ ["int", "bool", "str", "list", "tuple", "dict"], kitB t T = some (isaB t T) := by decide +kernel
  refine kit_ty (key _ ?_ _ ?_)
  · cases d <;> first | (cases hf; done) | simp [tyN]
  · rcases h' with h | h | h | h | h | h <;> simp [h]
def isaO (T : String) (d : D) (st : Sto) : Out D := if isFn d then .bad else .ok (.bl (isaB (tyN d) T)) st
def isaT (Ts : List String) (d : D) (st : Sto) : Out D := if isFn d then .bad else .ok (.bl (Ts.any (isaB (tyN d)))) st
section
variable {X : Cx} {G : Gr} {W : WX} {e : Expr} {me : EM D} {pos p q q2 q3 : Pos}
def eIsa (T : String) (me : EM D) : EM D := fun env st => bnd (me env st) (isaO T)
def eIsaT (Ts : List String) (me : EM D) : EM D := fun env st => bnd (me env st) (isaT Ts)
theorem de_isa {x : Str} {T : String} (hK : G.K = X.K) (hT : tyKnown T = true) (hg : Gl X "isinstance") (hm : X.mg "isinstance" = none) (hgT : Gl X x) (hmT : X.mg x = none) (hv : bootBuiltins x = some (.type T)) (ha : PE X e (dE G W me)) (hn : x ≠ "__name__" := by decide) (hdb : (x == ("__debug__" : Str)) = false := by decide)
    (he : starEach [e, .Name x q] X.env = (false, eval e X.env) :: starEach [.Name x q] X.env := by rfl) (hpl : (backTo pos (starEach [.Name x q] X.env)).any (·.1) = false := by rfl) (hs2 : starEach [.Name x q] X.env = (false, eval (.Name x q) X.env) :: starEach [] X.env := by rfl) :
    PE X (.Call (.Name "isinstance" p) [e, .Name x q] [] pos) (dE G W (eIsa T me)) :=
  PE.imp (pe_callB call_isi hg hm (by decide +kernel) (pa_cons ha (pa_cons (pe_bltn (v := .ty T) hgT hmT hv rfl hn hdb) pa_nil hs2) he) (he := he) (hpl := hpl)) fun σ H Q ⟨w, env, st, rs, re, h⟩ => by
    refine ⟨w, env, st, rs, re, Fit.bind h fun d st1 w1 H1 v rs1 e1 rv h1 => ?_⟩
    unfold isaO at h1
    split at h1
    · exact h1.elim
    · rename_i hf
      have hf' : isFn d = false := by simpa using hf
      exact ⟨v, .ty T, .type (tyN d), .type T, isaB (tyN d) T, rfl, .ty T, by rw [← hK]; exact rv.ty rs1 hf', isa_kit d hT hf', h1.now rs1 (.bl _)⟩
theorem de_isa2 {x y : Str} {T U : String} {k : Nat} (hK : G.K = X.K) (hT : tyKnown T = true) (hU : tyKnown U = true) (hg : Gl X "isinstance") (hm : X.mg "isinstance" = none) (hgT : Gl X x) (hmT : X.mg x = none) (hv : bootBuiltins x = some (.type T)) (hgU : Gl X y) (hmU : X.mg y = none) (hvU : bootBuiltins y = some (.type U)) (ha : PE X e (dE G W me))
    (hn : x ≠ "__name__" := by decide) (hdb : (x == ("__debug__" : Str)) = false := by decide) (hn2 : y ≠ "__name__" := by decide) (hdb2 : (y == ("__debug__" : Str)) = false := by decide)
    (he : starEach [e, .Tuple [.Name x q, .Name y q2] k q3] X.env = (false, eval e X.env) :: starEach [.Tuple [.Name x q, .Name y q2] k q3] X.env := by rfl) (hpl : (backTo pos (starEach [.Tuple [.Name x q, .Name y q2] k q3] X.env)).any (·.1) = false := by rfl)
    (hs2 : starEach [.Tuple [.Name x q, .Name y q2] k q3] X.env = (false, eval (.Tuple [.Name x q, .Name y q2] k q3) X.env) :: starEach [] X.env := by rfl) (hs3 : starEach [.Name x q, .Name y q2] X.env = (false, eval (.Name x q) X.env) :: starEach [.Name y q2] X.env := by rfl) (hs4 : starEach [.Name y q2] X.env = (false, eval (.Name y q2) X.env) :: starEach [] X.env := by rfl) :
    PE X (.Call (.Name "isinstance" p) [e, .Tuple [.Name x q, .Name y q2] k q3] [] pos) (dE G W (eIsaT [T, U] me)) :=
  PE.imp (pe_callB call_isiT hg hm (by decide +kernel) (pa_cons ha (pa_cons (pe_tup (pa_cons (pe_bltn (v := .ty T) hgT hmT hv rfl hn hdb) (pa_cons (pe_bltn (v := .ty U) hgU hmU hvU rfl hn2 hdb2) pa_nil hs4) hs3)) pa_nil hs2) he) (he := he) (hpl := hpl)) fun σ H Q ⟨w, env, st, rs, re, h⟩ => by
    refine ⟨w, env, st, rs, re, Fit.bind h fun d st1 w1 H1 v rs1 e1 rv h1 => ?_⟩
    unfold isaT at h1
    split at h1
    · exact h1.elim
    rename_i hf
    have hf' : isFn d = false := by simpa using hf
    refine ⟨by show 2 ≤ sizeLine; rw [sizeLine_eq]; omega, fun P hP => ?_⟩
    have rs2 := rs1.new (o := .tup [.ty T, .ty U]) hP
    have ex : Ext w1 H1 w1 (upd H1 P (.tup [.ty T, .ty U])) := Ext.new hP
    refine ⟨v, P, [.ty T, .ty U], .type (tyN d), [.type T, .type U], [T, U].any (isaB (tyN d)), rfl, upd_same, .cons (.ty T) (.cons (.ty U) .nil), by rw [← hK]; exact (rv.ext ex).ty rs2 hf', ?_, h1 _ _ _ rs2 ex (.bl _)⟩
    refine kitAny_cons (isa_kit d hT hf') (fun hf => kitAny_cons (b := isaB (tyN d) U) (isa_kit d hU hf') (fun hf2 => ?_) fun ht => ?_) fun ht => ?_
    · rw [kitAny_nil]; simp [hf, hf2]
    · simp [ht]
    · simp [ht]
end
end DL

set_option Elab.async false
set_option linter.all false
set_option maxRecDepth 100000
set_option maxHeartbeats 2000000
namespace DL
open PySem PySem.Spec PyProof.Rows L2
/-! ### an error class with one field, kept by its __init__ -/
def spI (C : Addr) (f : Str) : Sp := fun vs H Q _ => ∃ (a : Addr) (v : V), vs = [.ref a, v] ∧ H a = some (exo a C none) ∧ ∀ dx, H dx = none → dx ≠ a → Q .non (upd (upd H dx (exd dx [(f, v)])) a (exo a C (some dx)))
theorem init_ok {P : Program} {w : World} {K : PySem.W.Frag} {mg : Str → Option Value} {base : Heap} {qual f : Str} {s1 : Stmt} {fI C : Addr} {fd : FuncData} {q1 q2 q3 q4 : Pos} (F : Fun K "__init__" qual s1 fI fd) (S : FnScope ["self", f] ["self", f] (defScope s1))
    (hb : defBody s1 = [.Assign [.Attribute (.Name "self" q1) f q2] (.Name f q3) q4]) (T : OexC K C) (hno : PySem.W.findIn K (.ref C) f = some none) (hl : (defScope s1).names.lookup ("self" : Str) = some .local) (hl2 : (defScope s1).names.lookup f = some .local)
    (hd : (f == ("__debug__" : Str)) = false := by decide) (hcd : (f == ("__classdict__" : Str)) = false := by decide) : FnOk P w K mg base CX0 1 fI fd ["self", f] (spI C f) := by
  refine F.ok S (fun vs H Q E h => ?_) fun cdv A outer s H vs Q E hr h => ?_
  · obtain ⟨a, v, rfl, _⟩ := h
    rfl
  · obtain ⟨a, v, rfl, ha, h⟩ := h
    refine ⟨_, by rw [hb]; exact pss_one (ps_ost (pe_var (i := 0) rfl (.inl hl)) (pe_var (i := 1) rfl (.inl hl2) hd hcd)), ?_⟩
    exact ⟨v, rfl, .ref a, rfl, a, C, rfl, T, hno, .inl ⟨ha, fun dx hdx hne => h dx hdx hne⟩⟩
structure ErrC (P : Program) (w : World) (K : PySem.W.Frag) (mg : Str → Option Value) (base : Heap) (c f : Str) (C fI : Addr) (fd : FuncData) : Prop where
  T : OexC K C
  X : XfC K C
  g : mg c = some (.ref C)
  i : PySem.W.findIn K (.ref C) "__init__" = some (some (.ref fI))
  t : PySem.W.typeIn K (.ref fI) = some (.type "function")
  no : PySem.W.findIn K (.ref C) f = some none
  ok : FnOk P w K mg base CX0 1 fI fd ["self", f] (spI C f)
  b : Binds K fd ["self", f] []
section
variable {X : Cx} {G : Gr} {W : WX} {e : Expr} {me : EM D} {pos p pos2 : Pos}
def sRaise (c f : Str) (me : EM D) : SM := fun env st => bndS env (me env st) fun d st => .err c [(f, d)] env st
theorem ds_raise {c f : Str} {C fI : Addr} {fd : FuncData} (E : ErrC X.prog X.w X.K X.mg X.base c f C fI fd) (hM : G.mg = X.mg) (hc : X.calm = true) (tk : Takes X W) (hr : Room 2 X.A) (hg : Gl X c) (he : PE X e (dE G W me)) (hdb : (c == ("__debug__" : Str)) = false := by decide)
    (hs : starEach (e :: []) X.env = (false, eval e X.env) :: starEach [] X.env := by rfl) (hpl : (backTo pos (starEach [] X.env)).any (·.1) = false := by rfl) :
    PS X (.Raise (some (.Call (.Name c p) [e] [] pos)) none pos2) (dS G W (sRaise c f me)) :=
  PS.imp (ps_raise hc tk (pmk_oex E.T E.i E.t E.ok hr E.b .nil pass0 hg E.g (pa_cons he pa_nil hs) hdb hs hpl)) fun Dn σ H ⟨w, env, st, rs, re, h⟩ => by
    refine ⟨w, env, st, rs, re, FitS.bind re h fun d st1 w1 H1 v rs1 e1 rv h1 => ?_⟩
    refine ⟨by show 1 ≤ 1000; omega, fun a ha => ⟨a, v, rfl, upd_same, fun dx hdx hne => ⟨rfl, dx, [(f, v)], upd_same, ?_, ?_, ?_⟩⟩⟩
    · rw [upd_ne hne, upd_same]
    · rw [upd_ne hne] at hdx
      exact hdx
    · have h1dx : H1 dx = none := by
        rw [upd_ne hne] at hdx
        exact hdx
      have eH : upd (del (upd (upd (upd H1 a (exo a C none)) dx (exd dx [(f, v)])) a (exo a C (some dx))) a) dx (.xd [(f, v)]) = upd H1 dx (.xd [(f, v)]) := by
        funext b
        by_cases hb : b = dx
        · rw [hb, upd_same, upd_same]
        · rw [upd_ne hb, upd_ne hb]
          by_cases hba : b = a
          · rw [hba, del_same, ha]
          · rw [del_ne hba, upd_ne hba, upd_ne hb, upd_ne hba]
      rw [eH]
      refine h1 w1 _ σ (.ref C) (some dx) (rs1.new h1dx) (Ext.new h1dx) ((re.ext e1).ext (Ext.new h1dx)) ⟨C, by rw [hM]; exact E.g, rfl, dx, [(f, v)], rfl, upd_same, rs1.notLive h1dx, .cons (rv.ext (Ext.new h1dx)) .nil⟩
end

/-! ### try with several clauses, each with a name -/
abbrev Clause := Value × Nat × (Addr → Value → Option Addr → TS)
/-- the ends of a clause: its name goes -/
def gone (i : Nat) (D : Ends) : Ends := { nx := fun σ' H' => D.nx (σ'.set i none) H', rt := D.rt, bk := fun σ' H' => D.bk (σ'.set i none) H', ct := fun σ' H' => D.ct (σ'.set i none) H' }
def wClauses (K : PySem.W.Frag) (Wout : WX) (D : Ends) : List Clause → WX
  | [] => Wout
  | (c, i, ts) :: r => fun cls d σ H => ∃ b, PySem.W.exmOne K cls c = some b ∧ (b = true → ∀ a, H a = none → ts a cls d (gone i D) (σ.set i (some (.ref a))) H) ∧ (b = false → wClauses K Wout D r cls d σ H)
inductive ClOk (X : Cx) : List ExceptHandler → List Clause → Prop
  | nil : ClOk X [] []
  | cons {x n : Str} {c : Value} {i : Nat} {ts : Addr → Value → Option Addr → TS} {b0 : Stmt} {suite : List Stmt} {np hpos : Pos} {hds : List ExceptHandler} {l : List Clause} (hc : Names X x c) (hi : X.N[i]? = some n) (hln : X.env.kindOf n = some .local)
      (hsu : ∀ (a : Addr) (oe : Obj) (cls : Value) (d : Option Addr) (pn : List (Addr × Obj)), Zc cls d oe → (∃ vs, oe.data = .fields vs) → PSs (X.suite a ((a, oe) :: pn)) (b0 :: suite) (ts a cls d)) (r : ClOk X hds l) :
      ClOk X (.ExceptHandler (some (.Name x np)) (some n) (b0 :: suite) hpos :: hds) ((c, i, ts) :: l)
theorem SP.ofTry {X : Cx} {pins pn : List (Addr × Obj)} {xe : Value → Shared → Prop} {D : Ends} {f : Flow} {s : Shared} (ok : X.Ok) (h : SP (X.tr (X.pn ++ pins) xe) [] D f s) : SP X pins D f s := by
  cases f with
  | next => obtain ⟨σ', H', J', q⟩ := h; exact ⟨σ', H', J'.ofTry ok, q⟩
  | brk => obtain ⟨σ', H', J', q⟩ := h; exact ⟨σ', H', J'.ofTry ok, q⟩
  | cont => obtain ⟨σ', H', J', q⟩ := h; exact ⟨σ', H', J'.ofTry ok, q⟩
  | ret u => obtain ⟨v, σ', H', J', r, q⟩ := h; exact ⟨v, σ', H', J'.ofTry ok, r, q⟩
theorem ps_tryC {X : Cx} {body : List Stmt} {h0 : ExceptHandler} {hds : List ExceptHandler} {l : List Clause} {pos : Pos} {tb : WX → TS} {Wout : WX} (hs : X.stack = X.env :: X.outer) (hf : X.env.frame = some X.env.locals) (hN : X.N.Nodup) (tk : Takes X Wout)
    (hb : ∀ (W : WX) (pn : List (Addr × Obj)) (xe : Value → Shared → Prop), Takes (X.tr pn xe) W → PassesOwn (model X.prog X.w) X.A X.env xe → PSs (X.tr pn xe) body (tb W)) (hh : ClOk X (h0 :: hds) l) :
    PS X (.Try body (h0 :: hds) [] [] pos) (fun D σ H => tb (wClauses X.K Wout D l) D σ H) := by
  refine ⟨fun pins s σ H D I h => ?_⟩
  have ok := I.ok
  have hfr : X.A.frames = some (X.env :: X.outer) := by rw [ok.frames, hs]
  refine wpAny_Try_except (wpAny_mono ((hb (wClauses X.K Wout D l) (X.pn ++ pins) _ (fun u s1 xx => ?_) PassesOwn.looking).run [] s σ H D (I.toTry _) h) (fun fl s1 hsp => ?_) (fun er s1 her => her))
  · obtain ⟨a, B, sI, pins1, σ1, H1, cls, d, rfl, J1, nb, up, sky, na, os, ag, wsh⟩ := xx
    have J : Inv X pins σ1 H1 sI := J1.ofTry ok
    have skyX : Sky B (X.env :: X.outer) a (Zc cls d) X.env.locals s1.heap := by rw [← hs]; exact sky
    show wpAny (model X.prog X.w) X.A (noteFrame (.ref a) X.env) _ _ _
    refine Sky.land Zc.steady hfr hf skyX fun h3 fl3 up3 => ?_
    have J3 : Inv X pins σ1 H1 { s1 with heap := h3 } := J.landed nb fl3.1 (up.trans up3) os ag
    obtain ⟨oe3, vs3, he3, hz3, hd3⟩ := fl3.there
    have nfr : a ∉ frs (X.env :: X.outer) := fun hm => by
      obtain ⟨_, o1, ho1, hnf⟩ := fl3.2.2.1.mem hm
      rw [he3] at ho1
      cases ho1
      exact hnf _ hd3
    have nL : a ≠ X.env.locals := fun z => nfr (List.mem_filterMap.mpr ⟨X.env, List.mem_cons_self, by rw [hf, z]⟩)
    have nF : a ∉ X.fs := fun hm => by
      obtain ⟨ev, hev, q⟩ := List.mem_filterMap.mp hm
      exact nfr (List.mem_filterMap.mpr ⟨ev, List.mem_cons_of_mem _ hev, q⟩)
    have S3 := J3.suite he3 hd3 na nL nF
    suffices go : ∀ {hs2 : List ExceptHandler} {l2 : List Clause}, ClOk X hs2 l2 → wClauses X.K Wout D l2 cls d σ1 H1 → wpAny (model X.prog X.w) X.A (handleBy (.ref a) X.env hs2) (SP X pins D) X.xe { s1 with heap := h3 } from go hh wsh
    intro hs2 l2 hk
    induction hk with
    | nil =>
      intro wv
      refine wpAny_handleBy_nil ?_
      obtain ⟨k1, k2, k3, oe, vs, T, oT, ts1, heo, hzo, hdo, hv1, hrest⟩ := id fl3
      unfold PySem.passOn
      refine wpAny_bind (wpAny_field heo hdo hv1 ?_)
      rw [if_neg (by simp)]
      have out : wpAny (model X.prog X.w) X.A (setFlight (.ref a) X.env.frame) (fun _ s4 => wpAny (model X.prog X.w) X.A (throw (.ref a) : Sem Flow) (SP X pins D) X.xe s4) X.xe { s1 with heap := h3 } := by
        rw [hf]
        refine HandSPX.setFlight_upZ fl3 fun h4 hh4 up4 => wpAny_throw (tk _ _ ⟨a, B, sI, pins, σ1, H1, cls, d, rfl, J, nb, (up.trans up3).trans up4, .inr (.inr ?_), na, os, ag, wv⟩)
        rw [hs]
        exact hh4
      first
        | exact wpAny_bind (wpAny_pure (wpAny_bind out))
        | exact wpAny_bind out
    | @cons x n c i ts b0 suite np hpos hd2 l3 hc hi hln hsu r ih =>
      intro wv
      obtain ⟨b, hb1, hyes, hno⟩ := wv
      refine wpAny_handleBy_cons (codeAny_handlers_test ?_) (by intro q; cases q)
      have LT : PySem.W.Looks (model X.prog X.w) h3 (typeOf (.ref a)) cls := fun A1 Q1 E1 s5 k q => wpAny_typeOf_ref (k _ _ he3) (by rw [hz3.1]; exact q)
      have LM := PySem.W.exm_one (M := model X.prog X.w) (J3.kIn) LT hb1
      have named : ∀ {Q1 : Value → Shared → Prop} {E1 : Value → Shared → Prop}, Q1 c { s1 with heap := h3 } → wpAny (model X.prog X.w) (X.A.mark (some (.ref a))) (eval (.Name x np) X.env) Q1 E1 { s1 with heap := h3 } := fun {Q1 E1} q => by
        obtain ⟨hg1, hdb1, hm1⟩ := hc
        rcases hm1 with hm1 | ⟨hm1, hv1, hn1⟩
        · exact ld_glob (X := X.suite a ((a, oe3) :: (X.pn ++ pins))) S3 hg1 hm1 q hdb1
        · exact ld_blt (X := X.suite a ((a, oe3) :: (X.pn ++ pins))) S3 hg1 hm1 hv1 q hn1 hdb1
      refine named (LM.here ?_)
      cases b with
      | false =>
        show wpAny _ X.A (handleBy (.ref a) X.env hd2) _ _ _
        exact ih (hno rfl)
      | true =>
        refine codeAny_handlers_suite_as (HandSPX.lands_againZ fl3 fun h4 fl4 up4 => ?_)
        have J4 : Inv X pins σ1 H1 { s1 with heap := h4 } := J.landed nb fl4.1 ((up.trans up3).trans up4) os ag
        obtain ⟨oe4, vs4, he4, hz4, hd4⟩ := fl4.there
        have S4 := J4.suite he4 hd4 na nL nF
        refine store_ok (X := X.suite a ((a, oe4) :: (X.pn ++ pins))) (v := .ref a) S4 hN hi (.inl hln) rfl (fun s5 S5 => ?_) (.inr hln)
        refine wpAny_mono ((hsu a oe4 cls d (X.pn ++ pins) hz4 ⟨_, hd4⟩).run [] s5 _ H1 _ S5 (hyes rfl a na)) (fun fl s6 hsp => ?_) (fun _ _ z => False.elim z)
        have fin : ∀ {σ6 : L2.St} {H6 : Hp} {Q6 : Shared → Prop}, Inv (X.suite a ((a, oe4) :: (X.pn ++ pins))) [] σ6 H6 s6 → (∀ s7, Inv X pins (σ6.set i none) H6 s7 → Q6 s7) →
            wpAny (model X.prog X.w) X.A (do bindName X.env n .none; unbindBehindTheSuite X.env n hpos) (fun _ s7 => Q6 s7) X.xe s6 := fun {σ6 H6 Q6} S6 hq => gone_ok (S6.unsuite ok) hN hi hln hq
        cases fl with
        | next => obtain ⟨σ6, H6, S6, q6⟩ := hsp; exact fin S6 fun s7 J7 => ⟨_, _, J7, q6⟩
        | brk => obtain ⟨σ6, H6, S6, q6⟩ := hsp; exact fin S6 fun s7 J7 => ⟨_, _, J7, q6⟩
        | cont => obtain ⟨σ6, H6, S6, q6⟩ := hsp; exact fin S6 fun s7 J7 => ⟨_, _, J7, q6⟩
        | ret u => obtain ⟨v6, σ6, H6, S6, r6, q6⟩ := hsp; exact fin S6 fun s7 J7 => ⟨_, _, _, J7, r6, q6⟩
  · have hsp2 := SP.ofTry (pn := []) ok hsp
    cases fl with
    | next => obtain ⟨σ', H', J', q⟩ := hsp2; exact wpAny_execs_nil ⟨σ', H', J', q⟩
    | brk => exact hsp2
    | cont => exact hsp2
    | ret u => exact hsp2
end DL

set_option Elab.async false
set_option linter.all false
set_option maxRecDepth 100000
set_option maxHeartbeats 2000000
namespace DL
open PySem PySem.Spec PyProof.Rows L2
/-! ### try: body / except C as e: return (k, e.f), or y = (k, e.f) -/
inductive Hk where
  | ret (k f : Str) | asg (y : Nat) (k f : Str)
abbrev Hd := Str × Nat × Hk
def runH : List Hd → Str → List (Str × D) → Env' → Sto → OutS
  | [], c, fs, env, st => .err c fs env st
  | (c', i, .ret k f) :: r, c, fs, env, st => if c = c' then (match fs.lookup f with
    | some d => .rt (.tup [.str k, d]) st
    | none => .bad) else runH r c fs env st
  | (c', i, .asg y k f) :: r, c, fs, env, st => if c = c' then (match fs.lookup f with
    | some d => .nx (((env.set i none).set y (some (.tup [.str k, d]))).set i none) st
    | none => .bad) else runH r c fs env st
def sTry (known : List Str) (hs : List Hd) (mb : SM) : SM := fun env st => match mb env st with
  | .err c fs env' st' => if known.contains c then runH hs c fs env' st' else .bad
  | o => o
/-- which class is which -/
def ExmK (K : PySem.W.Frag) (mg : Str → Option Value) (known : List Str) : Prop := ∀ c ∈ known, ∀ c' ∈ known, ∀ C C' : Addr, mg c = some (.ref C) → mg c' = some (.ref C') → PySem.W.exmOne K (.ref C) (.ref C') = some (decide (c = c'))
theorem REnv.setX {K : PySem.W.Frag} {w : Wo} {H : Hp} {env : Env'} {σ : L2.St} (i : Nat) (x : Option V) (r : REnv K w H env σ) : REnv K w H (env.set i none) (σ.set i x) := by
  refine ⟨by simpa using r.1, fun j d h => ?_⟩
  by_cases e : i = j
  · subst e
    by_cases hi : i < env.length
    · rw [List.getElem?_set_self hi] at h
      cases h
    · rw [List.getElem?_eq_none (by simpa using Nat.le_of_not_lt hi)] at h
      cases h
  · rw [List.getElem?_set_ne e] at h
    obtain ⟨v', h1, h2⟩ := r.2 j d h
    exact ⟨v', by rw [List.getElem?_set_ne e]; exact h1, h2⟩
theorem RepF.get {K : PySem.W.Frag} {w : Wo} {H : Hp} {f : Str} {d : D} : ∀ {vs : List (Str × V)} {fs : List (Str × D)}, RepF K w H vs fs → fs.lookup f = some d → ∃ v, vs.lookup f = some v ∧ Rep K w H v d
  | _, _, .nil, h => by cases h
  | _, _, .cons (f := g) (v := v) (d := d') r t, h => by
    rw [List.lookup_cons] at h ⊢
    cases q : (f == g) with
    | true =>
      rw [q] at h
      dsimp only at h ⊢
      cases h
      exact ⟨v, rfl, r⟩
    | false =>
      rw [q] at h
      dsimp only at h ⊢
      exact RepF.get t h
section
variable {X : Cx} {G : Gr} {W : WX}
/-- a clause's reading -/
def tClause (K : PySem.W.Frag) (C : Addr) (i : Nat) : Hk → Addr → Value → Option Addr → TS
  | .ret k f => fun a cls d => tRet (tTup (tCons (tC (.str k)) (tCons (tXf a cls d C f (tVar i)) tNil)))
  | .asg y k f => fun a cls d => tAsg (tTup (tCons (tC (.str k)) (tCons (tXf a cls d C f (tVar i)) tNil))) (gName y)
inductive HdOk (X : Cx) (known : List Str) : List ExceptHandler → List Hd → List Clause → Prop
  | nil : HdOk X known [] [] []
  | cons {c n : Str} {C : Addr} {i : Nat} {h : Hk} {b0 : Stmt} {np hpos : Pos} {hds : List ExceptHandler} {hs : List Hd} {l : List Clause} (hk : c ∈ known) (hg : X.mg c = some (.ref C))
      (cl : ClOk X (.ExceptHandler (some (.Name c np)) (some n) [b0] hpos :: hds) ((.ref C, i, tClause X.K C i h) :: l)) (hi : i < X.N.length) (hy : ∀ y k f, h = .asg y k f → y ≠ i) (r : HdOk X known hds hs l) :
      HdOk X known (.ExceptHandler (some (.Name c np)) (some n) [b0] hpos :: hds) ((c, i, h) :: hs) ((.ref C, i, tClause X.K C i h) :: l)
theorem HdOk.cl {known : List Str} {hds : List ExceptHandler} {hs : List Hd} {l : List Clause} (h : HdOk X known hds hs l) : ClOk X hds l := by
  cases h with
  | nil => exact .nil
  | cons _ _ cl _ _ _ => exact cl
theorem fit_clauses {known : List Str} (hK : G.K = X.K) (hM : G.mg = X.mg) (ex : ExmK X.K X.mg known) {Dn : Ends} {w : Wo} {H : Hp} {σ : L2.St} {env : Env'} {st : Sto} {c : Str} {fs : List (Str × D)} {cls : Value} {d : Option Addr} (hc : c ∈ known) (rs : RSt G.K G.T w st H) (re : REnv G.K w H env σ) (xk : ExcOk G.K G.mg w H c fs cls d)
    (hlen : σ.length = X.N.length) : ∀ {hds : List ExceptHandler} {hs : List Hd} {l : List Clause}, HdOk X known hds hs l → FitS G w H Dn W (runH hs c fs env st) → wClauses X.K W Dn l cls d σ H
  | _, _, _, .nil, h => h w H σ cls d rs (Ext.refl _ _) re xk
  | _, _, _, .cons (c := c') (C := C') (i := i) (h := hk) hkn hg cl hi hy r, h => by
    obtain ⟨C, gC, ecls, hf⟩ := id xk
    rw [hM] at gC
    refine ⟨decide (c = c'), by rw [ecls]; exact ex c hc c' hkn C C' gC hg, fun hb a ha => ?_, fun hb => ?_⟩
    · have ec := of_decide_eq_true hb
      subst ec
      rw [gC] at hg
      have eC : C = C' := by injection (Option.some.inj hg)
      subst eC
      have ilt : i < σ.length := by rw [hlen]; exact hi
      have hσ : (σ.set i (some (.ref a)))[i]? = some (some (.ref a)) := List.getElem?_set_self ilt
      cases hk with
      | ret k f =>
        unfold runH at h
        rw [if_pos rfl] at h
        cases q : fs.lookup f with
        | none => rw [q] at h; exact h.elim
        | some dv =>
          rw [q] at h
          cases fs with
          | nil => cases q
          | cons p0 fs0 =>
            obtain ⟨dx, vs, ed, hdx, ndx, rf⟩ := hf
            obtain ⟨v, hv, rv⟩ := rf.get q
            refine ⟨.ref a, hσ, rfl, ecls, dx, vs, v, ed, hdx, hv, by show 2 ≤ sizeLine; rw [sizeLine_eq]; omega, fun P hP => ?_⟩
            obtain ⟨k1, k2, k3⟩ := rs.newT hP (.cons (.str k) (.cons rv .nil))
            exact h _ _ _ k1 k2 k3
      | asg y k f =>
        unfold runH at h
        rw [if_pos rfl] at h
        cases q : fs.lookup f with
        | none => rw [q] at h; exact h.elim
        | some dv =>
          rw [q] at h
          cases fs with
          | nil => cases q
          | cons p0 fs0 =>
            obtain ⟨dx, vs, ed, hdx, ndx, rf⟩ := hf
            obtain ⟨v, hv, rv⟩ := rf.get q
            refine ⟨.ref a, hσ, rfl, ecls, dx, vs, v, ed, hdx, hv, by show 2 ≤ sizeLine; rw [sizeLine_eq]; omega, fun P hP => ?_⟩
            obtain ⟨k1, k2, k3⟩ := rs.newT hP (.cons (.str k) (.cons rv .nil))
            exact h _ _ _ k1 k2 ((((re.ext k2).setX i _).set y k3).setX i none)
    · have nc := of_decide_eq_false hb
      refine fit_clauses hK hM ex hc rs re xk hlen r ?_
      cases hk with
      | ret k f =>
        unfold runH at h
        rw [if_neg nc] at h
        exact h
      | asg y k f =>
        unfold runH at h
        rw [if_neg nc] at h
        exact h
/-- the slots are as many as the names -/
theorem ds_try {known : List Str} {body : List Stmt} {h0 : ExceptHandler} {hds : List ExceptHandler} {hs : List Hd} {l : List Clause} {pos : Pos} {mb : SM} (hK : G.K = X.K) (hM : G.mg = X.mg) (ex : ExmK X.K X.mg known) (hst : X.stack = X.env :: X.outer) (hf : X.env.frame = some X.env.locals) (hN : X.N.Nodup) (tk : Takes X W)
    (hb : ∀ (W' : WX) (pn : List (Addr × Obj)) (xe : Value → Shared → Prop), Takes (X.tr pn xe) W' → PassesOwn (model X.prog X.w) X.A X.env xe → PSs (X.tr pn xe) body (dS G W' mb)) (hh : HdOk X known (h0 :: hds) hs l)
    (hlen : ∀ env st c fs env' st', mb env st = .err c fs env' st' → env.length = X.N.length → env'.length = X.N.length) : PS X (.Try body (h0 :: hds) [] [] pos) (dS G W (sTry known hs mb)) := by
  refine ⟨fun pins s σ H D I h => ?_⟩
  refine (ps_tryC hst hf hN tk hb hh.cl).run pins s σ H D I ?_
  obtain ⟨w, env, st, rs, re, h⟩ := h
  refine ⟨w, env, st, rs, re, ?_⟩
  unfold sTry at h
  cases q : mb env st with
  | nx env' st' => rw [q] at h; exact h
  | bk env' st' => rw [q] at h; exact h
  | ct env' st' => rw [q] at h; exact h
  | rt d st' => rw [q] at h; exact h
  | bad => rw [q] at h; exact h
  | err c fs env' st' =>
    rw [q] at h
    dsimp only at h
    split at h
    · rename_i hc
      intro w' H' σ' cls dx rs' e' re' xk
      have hl : σ'.length = X.N.length := by
        rw [← re'.1]
        exact hlen env st c fs env' st' q (by rw [re.1]; exact I.len)
      exact fit_clauses hK hM ex (by simpa using hc) rs' re' xk hl hh (h.ext e')
    · exact h.elim
/-- the two forms of a clause -/
theorem cl_ret {c n k f : Str} {C : Addr} {i j : Nat} {np hpos p1 p2 p3 p4 p5 : Pos} {kk : Nat} {hds : List ExceptHandler} {l : List Clause} (hg : Gl X c) (hm : X.mg c = some (.ref C)) (xf : XfC X.K C) (no : PySem.W.findIn X.K (.ref C) f = some none) (hi : X.N[i]? = some n) (hln : X.env.kindOf n = some .local) (r : ClOk X hds l)
    (hd : (c == ("__debug__" : Str)) = false := by decide) (hd2 : (n == ("__debug__" : Str)) = false := by decide) (hcd : (n == ("__classdict__" : Str)) = false := by decide)
    (hs : starEach [.Constant (.str k) j p1, .Attribute (.Name n p2) f p3] X.env = (false, eval (.Constant (.str k) j p1) X.env) :: starEach [.Attribute (.Name n p2) f p3] X.env := by rfl) (hs2 : starEach [.Attribute (.Name n p2) f p3] X.env = (false, eval (.Attribute (.Name n p2) f p3) X.env) :: starEach [] X.env := by rfl) (hb : attributeBase (.Name n p2) f X.env (eval (.Name n p2) X.env) = eval (.Name n p2) X.env := by rfl) :
    ClOk X (.ExceptHandler (some (.Name c np)) (some n) [.Return (some (.Tuple [.Constant (.str k) j p1, .Attribute (.Name n p2) f p3] kk p4)) p5] hpos :: hds) ((.ref C, i, tClause X.K C i (.ret k f)) :: l) :=
  .cons ⟨hg, hd, .inl hm⟩ hi hln (fun a oe cls d pn hz hfl => pss_one (ps_ret (pe_tup (pa_cons pe_str (pa_cons (pe_xf xf no hz hfl (pe_var hi (.inl hln) hd2 hcd) hb) pa_nil hs2) hs)))) r
theorem cl_asg {c n k f z : Str} {C : Addr} {i j y : Nat} {np hpos p1 p2 p3 p4 p5 p6 : Pos} {kk : Nat} {hds : List ExceptHandler} {l : List Clause} (hN : X.N.Nodup) (hg : Gl X c) (hm : X.mg c = some (.ref C)) (xf : XfC X.K C) (no : PySem.W.findIn X.K (.ref C) f = some none) (hi : X.N[i]? = some n) (hln : X.env.kindOf n = some .local)
    (hy : X.N[y]? = some z) (hlz : X.env.kindOf z = some .local) (r : ClOk X hds l) (hd : (c == ("__debug__" : Str)) = false := by decide) (hd2 : (n == ("__debug__" : Str)) = false := by decide) (hcd : (n == ("__classdict__" : Str)) = false := by decide)
    (hs : starEach [.Constant (.str k) j p1, .Attribute (.Name n p2) f p3] X.env = (false, eval (.Constant (.str k) j p1) X.env) :: starEach [.Attribute (.Name n p2) f p3] X.env := by rfl) (hs2 : starEach [.Attribute (.Name n p2) f p3] X.env = (false, eval (.Attribute (.Name n p2) f p3) X.env) :: starEach [] X.env := by rfl) (hb : attributeBase (.Name n p2) f X.env (eval (.Name n p2) X.env) = eval (.Name n p2) X.env := by rfl)
    (hsw : swapsWith (.Tuple [.Constant (.str k) j p1, .Attribute (.Name n p2) f p3] kk p4) (some (.Name z p6)) p5.line X.env = pure false := by rfl) :
    ClOk X (.ExceptHandler (some (.Name c np)) (some n) [.Assign [.Name z p6] (.Tuple [.Constant (.str k) j p1, .Attribute (.Name n p2) f p3] kk p4) p5] hpos :: hds) ((.ref C, i, tClause X.K C i (.asg y k f)) :: l) :=
  .cons ⟨hg, hd, .inl hm⟩ hi hln (fun a oe cls d pn hz hfl => pss_one (ps_set (i := y) (X := X.suite a ((a, oe) :: pn)) hN hy (.inl hlz) (pe_tup (pa_cons pe_str (pa_cons (pe_xf xf no hz hfl (pe_var hi (.inl hln) hd2 hcd) hb) pa_nil hs2) hs)) hsw (.inr hlz))) r
end
end DL

set_option Elab.async false
set_option linter.all false
set_option maxRecDepth 100000
set_option maxHeartbeats 2000000
namespace DL
open PySem PySem.Spec PyProof.Rows L2
open LamX (LamS lamCx lamEnv CodeO TabB Tabs ExtN lam_make2 lam_start2 run_ofS codeO_ne)
/-! ### a lambda handed to a def that calls it -/
section
variable {X : Cx} {pins : List (Addr × Obj)} {σ : L2.St} {H : Hp} {s : Shared}
theorem pe_actS {CXg : CXT} {Eg : XK} {Ng : List Str} {qg : Str} {sg : Scope} {g f c1 : Addr} {cdg pm ctv : Value} {params : Arguments} {body : Expr} {scope : Scope} {k i : Nat} {a : Str} {pn : List (Addr × Obj)} {xe : Value → Shared → Prop} {W : WX} {tb : XK → TE} {p1 p2 : Pos}
    (I : Inv X pins σ H s) (L : LamS X.env.scope scope) (hf : s.heap.get? f = some (PySem.W.kla_obj "<lambda>" (X.env.qual ++ "<lambda>") params body scope (cloFrom X.env.cells scope.names []) pm c1 ctv)) (hfn : H f = none) (hfr : f ∉ frs X.stack)
    (hbind : bindArgs (PySem.W.kla_fn "<lambda>" (X.env.qual ++ "<lambda>") params body scope (cloFrom X.env.cells scope.names []) pm (.ref c1) ctv) ⟨[], []⟩ = pure [])
    (tk : Takes ((cxOf CXg X.prog X.w X.K X.mg X.base Ng qg sg g cdg X.A X.stack s H Eg).tr pn xe) W) (hr : Room (k + 1) (X.A.deeper (envOfC qg sg s.heap.objs.size g cdg)))
    (hbody : ∀ (A : Around) (outer : List Env) (s : Shared) (H : Hp) (E : XK), Room k (A.deeper (lamEnv X scope s.heap.objs.size f c1)) → PE (lamCx X A outer s H E scope f c1) body (tb E))
    (hN : Ng[i]? = some a) (hv : Vis sg a) (hd : (a == ("__debug__" : Str)) = false := by decide) (hcd : (a == ("__classdict__" : Str)) = false := by decide) :
    PE ((cxOf CXg X.prog X.w X.K X.mg X.base Ng qg sg g cdg X.A X.stack s H Eg).tr pn xe) (.Call (.Name a p1) [] [] p2)
      (fun σZ HZ Q => σZ[i]? = some (some (.ref f)) ∧ HZ c1 = some (CodeO c1 (X.env.qual ++ "<lambda>")) ∧ tb (fun c d H' => W c d σZ H') σ HZ Q) := by
  refine ⟨fun pinsZ sZ σZ HZ Q IZ hh => ?_⟩
  obtain ⟨hsl, hcode, hread⟩ := hh
  have ld := (pe_var (pos := p1) (i := i) hN hv hd hcd).run pinsZ sZ σZ HZ (fun v H1 => v = .ref f ∧ H1 = HZ) IZ ⟨.ref f, hsl, rfl, rfl⟩
  refine wpAny_Call_Name_kw (thn ld fun u s1 hu => ?_)
  obtain ⟨v, H1, I1, r1, ev, eH⟩ := hu
  subst ev
  rw [eH] at I1
  obtain rfl : u = Value.ref f := r1
  have of1 := I1.base.keep f _ hf hfn hfr (fun z => nomatch (show f ∈ ([] : List Addr) from z))
  refine PySem.W.callWith_F0 ⟨_, _, _, _, of1⟩ ?_
  have un : Un (frs X.stack) [] H HZ s.heap s1.heap := I1.base
  obtain ⟨⟨oc, vs, t, hoc, hdc, hvc⟩, _, _⟩ := I1.hok c1 _ hcode
  have ran : codeAny (model X.prog X.w) (X.A.deeper (envOfC qg sg s.heap.objs.size g cdg)) (.call (.ref f) ⟨[], []⟩) (CR (L2.CX X.prog X.w) (envOfC qg sg s.heap.objs.size g cdg :: X.stack) X.prog X.w HZ s1 Q (fun c d H' => W c d σZ H')) s1 := by
    refine PySem.W.kla_callFunE hr.depth of1 rfl L.co L.gen rfl ⟨c1, oc, vs, t, rfl, hoc, hdc, hvc⟩ ?_
    rw [hbind]
    refine wpAny_pure (wpAny_newFunctionEnv (fun y hy => (L.own y hy).2) (fun y hy => absurd hy (by simp)) (fun h1 hns hsb => ⟨I1.nolimit.fresh _ hsb, ?_⟩) L.kind)
    show codeAny _ _ (.expr body (lamEnv X scope s1.heap.objs.size f c1)) _ _
    have kp : ∀ b o, s1.heap.get? b = some o → h1.get? b = some o := fun b o e => hsb.extBut b o (Nat.ne_of_lt (Heap.lt_size e)) (Heap.get?_push_of_some _ e)
    have J := lam_start2 (E := fun c d H' => W c d σZ H') (f := f) (c' := c1) (tk := s1.toks + ([] : List (Str × Value)).length) I L I1.env0 hr.hd un hns kp
    refine PySem.W.kla_codeExpr (wpAny_mono ((hbody _ _ s1 HZ _ (hr.deeper _)).run [] _ _ HZ Q J hread) (fun v s2 hq => ?_) fun e s2 hq => hq)
    obtain ⟨w2, H2, J2, rv, q⟩ := hq
    exact ⟨w2, H2, J2.os, J2.bare, J2.base, J2.hok, rv, q⟩
  refine wpAny_call (codeAny_mono ran fun r s2 hq => ?_)
  cases r with
  | error e => exact passAt tk σZ pinsZ HZ s1 e s2 I1 hq
  | ok fl =>
    cases fl with
    | ret u => exact I1.after hq
    | next => exact False.elim hq
    | brk => exact False.elim hq
    | cont => exact False.elim hq
end
open Classical in
/-- the call of what was handed over: job is what it does -/
noncomputable def eJob (d : D) (job : Sto → Out D) : EM D := fun env st => match env[0]? with
  | some (some d') => if d' = d then job st else .bad
  | _ => .bad
def eLam (mo : (Sto → Out D) → Sto → Out D) (ml : EM D) : EM D := fun env st => mo (ml env) st
section
variable {X : Cx} {G : Gr} {W : WX}
theorem RSt.extN {K : PySem.W.Frag} {T : List (Addr × Str)} {w : Wo} {st : Sto} {H H1 : Hp} (rs : RSt K T w st H) (e : ExtN H H1) (t : Tabs T H1) : RSt K T w st H1 ∧ Ext w H w H1 := by
  have kl : ∀ {b : Addr} {xs : List V}, H b = some (.lst xs) → H1 b = some (.lst xs) := fun {b xs} h => e b _ h fun ps z => by cases z
  have ex : Ext w H w H1 := by
    refine ⟨⟨fun _ _ h => h, fun a o h n nt => ⟨e a o h nt, n⟩⟩, fun a o l nn h => ?_⟩
    obtain ⟨xs, hx⟩ := rs.livH a l
    rw [h] at hx
    cases hx
    exact ⟨kl h, l, nn⟩
  refine ⟨⟨rs.len, rs.nd, fun a l => ?_, rs.livL, rs.livF, fun n a c h1 h2 => ?_, t⟩, ex⟩
  · obtain ⟨xs, hx⟩ := rs.livH a l
    exact ⟨xs, kl hx⟩
  · obtain ⟨xs, hx, r⟩ := rs.cell n a c h1 h2
    exact ⟨xs, kl hx, r.ext ex⟩
/-- what the def g makes of a job -/
def GivesD (X : Cx) (G : Gr) (k : Nat) (Ng : List Str) (x : Str) (sg : Scope) (g : Addr) (cdg : Value) (bg : List Stmt) (a : Str) (mg : D → (Sto → Out D) → SM) : Prop :=
  ∀ (s : Shared) (H : Hp) (d : D) (job : Sto → Out D), Room (k + 1) (X.A.deeper (envOfC x sg s.heap.objs.size g cdg)) →
    (∀ (W : WX) (pn : List (Addr × Obj)) (xe : Value → Shared → Prop) (p1 p2 : Pos), Takes ((cxOf CX0 X.prog X.w X.K X.mg X.base Ng x sg g cdg X.A X.stack s H E0).tr pn xe) W →
      PE ((cxOf CX0 X.prog X.w X.K X.mg X.base Ng x sg g cdg X.A X.stack s H E0).tr pn xe) (.Call (.Name a p1) [] [] p2) (dE G W (eJob d job))) →
    PSs (cxOf CX0 X.prog X.w X.K X.mg X.base Ng x sg g cdg X.A X.stack s H E0).nox bg (dS G WF (mg d job))
theorem de_lam {x a : Str} {g c P : Addr} {k : Nat} {pg : Arguments} {bg : List Stmt} {sg : Scope} {dV kV doc pm cdv ct oc : Value} {an od : Option Addr} {osl : Array (Option Value)} {Ng : List Str} {params : Arguments} {body : Expr} {scope : Scope} {p lpos pos : Pos} {mg : D → (Sto → Out D) → SM} {mo : (Sto → Out D) → Sto → Out D} {ml : EM D}
    (hg : Gl X x) (hm : X.mg x = some (.ref g)) (hk : PySem.W.keepIn X.K (.ref g) = true) (lk : X.K.lookup g = some ⟨oc, od, .func (PySem.W.fnOf x x pg bg sg dV kV doc pm an cdv ct), osl⟩) (hcg : PySem.W.codeIn X.K cdv x = true)
    (hb : Binds X.K (PySem.W.fnOf x x pg bg sg dV kV doc pm an cdv ct) [a] []) (Sg : FnScope Ng [a] sg) (hNg : Ng[0]? = some a) (hva : Vis sg a) (hG : GivesD X G k Ng x sg g cdv bg a mg) (hsem : ∀ d job st, outOf (mg d job (startE Ng.length [d]) st) = mo job st) (hcalm : ∀ job st, Calm (mo job st))
    (TB : TabB X.base X.mg c P) (hcode : X.env.code = .ref c) (hmT : (P, X.env.qual ++ "<lambda>") ∈ G.T) (hu : ∀ p ∈ G.T, p.1 = P → p.2 = X.env.qual ++ "<lambda>") (hr : Room (k + 2) X.A) (L : LamS X.env.scope scope) (hdef : defaultsOf params X.env = ([], []))
    (hbind : ∀ (q : Str) (cl : List (Str × Addr)) (pm cv ctv : Value), bindArgs (PySem.W.kla_fn "<lambda>" q params body scope cl pm cv ctv) ⟨[], []⟩ = pure [])
    (hbody : ∀ (A : Around) (outer : List Env) (s : Shared) (H : Hp) (E : XK) (f c1 : Addr), Room k (A.deeper (lamEnv X scope s.heap.objs.size f c1)) → PE (lamCx X A outer s H E scope f c1) body (dE G (fun c d _ H' => E c d H') ml))
    (hdb : (x == ("__debug__" : Str)) = false := by decide) (hd : (a == ("__debug__" : Str)) = false := by decide) (hcd : (a == ("__classdict__" : Str)) = false := by decide) :
    PE X (.Call (.Name x p) [.Lambda params body scope lpos] [] pos) (dE G W (eLam mo ml)) := by
  refine ⟨fun pins s σ H Q I h => ?_⟩
  obtain ⟨w, env, st, rs, re, h⟩ := h
  have h0 : FitD G w H Q E0 (mo (ml env) st) := fit_calm h (hcalm _ _)
  refine wpAny_Call_Name_kw (ld_glob I hg hm ?_ hdb)
  refine PySem.W.callWith_K (h₀ := X.base) I.ok.mod.kin hk ?_ (by rfl) (by rfl)
  show wpAny _ _ (spliced ((false, eval (.Lambda params body scope lpos) X.env) :: backTo pos (starEach [] X.env))) _ _ s
  refine Calls.spliced_cons (lam_make2 I TB hcode hmT hu rs.tab hdef (L.has I.ok) fun f c1 pm1 ctv H1 s1 I1 eN T1 hf hfn hfr hco => ?_)
  refine Calls.spliced_nil ⟨I1.kIn, ?_⟩
  obtain ⟨rs1, e1⟩ := rs.extN eN T1
  have ncl : ¬ w.liv c1 := fun z => by
    obtain ⟨xs, hx⟩ := rs1.livH c1 z
    rw [hco] at hx
    exact nomatch (Option.some.inj hx)
  have re1 := re.ext e1
  have rd : Rep G.K w H1 (.ref f) (.fn f c1 (X.env.qual ++ "<lambda>") w H1) := .fn hco ncl (Ext.refl w H1).toExt0
  have ran : codeAny (model X.prog X.w) X.A (.call (.ref g) ⟨[.ref f], []⟩) (CR CX0 X.stack X.prog X.w H1 s1 Q E0) s1 := by
    refine run_ofS (N := Ng) (ps := [a]) (us := [.ref f]) (vs := [.ref f]) lk hcg Sg hr I1.env0 (hb s1 [.ref f] I1.kIn rfl) (.cons rfl .nil) rfl fun hr1 => ?_
    refine ⟨_, (hG s1 H1 (.fn f c1 (X.env.qual ++ "<lambda>") w H1) (ml env) hr1 fun W1 pn xe p1 p2 tk => ?_).nox, ?_⟩
    · refine PE.imp (pe_actS (i := 0) I1 L hf hfn hfr (hbind _ _ _ _ _) tk hr1 (fun A outer s H E hr2 => hbody A outer s H E f c1 hr2) hNg hva hd hcd) fun σZ HZ Q1 hz => ?_
      obtain ⟨wZ, envZ, stZ, rsZ, reZ, hZ⟩ := hz
      unfold eJob at hZ
      cases q : envZ[0]? with
      | none => rw [q] at hZ; exact hZ.elim
      | some od =>
        cases od with
        | none => rw [q] at hZ; exact hZ.elim
        | some d1 =>
          rw [q] at hZ
          dsimp only at hZ
          split at hZ
          · rename_i ed
            subst ed
            obtain ⟨v0, hv0, rv0⟩ := reZ.2 0 _ q
            cases rv0 with
            | fn hc2 nl2 ex2 => exact ⟨hv0, hc2, wZ, env, stZ, rsZ, ⟨re1.1, fun i d hi => let ⟨v, h1, h2⟩ := re1.2 i d hi; ⟨v, h1, h2.ext0 ex2⟩⟩, hZ⟩
          · exact hZ.elim
    · exact ⟨w, _, st, rs1, renv_start (.cons rd .nil), fit_run (E := E0) (by rw [hsem]; exact Fit.ext h0 e1)⟩
  refine wpAny_call (codeAny_mono ran fun r s2 hq => ?_)
  cases r with
  | error e => exact (show False from hq).elim
  | ok fl =>
    cases fl with
    | ret u => exact I1.after hq
    | next => exact False.elim hq
    | brk => exact False.elim hq
    | cont => exact False.elim hq
end
end DL

set_option Elab.async false
set_option linter.all false
set_option maxRecDepth 100000
set_option maxHeartbeats 2000000
namespace DL
open PySem PySem.Spec PyProof.Rows L2
/-! ### a dict of the module, its keys texts -/
structure KD (G : Gr) (w : World) (x : Str) (kvs : List (Str × D)) : Prop where
  ex : ∃ (d : Addr) (es : Array DictEntry) (n : Nat), G.mg x = some (.ref d) ∧ KDict G.K w d es n ∧ Paired (fun (p : Str × D) (e : DictEntry) => (∃ t, e.key = .str p.1 t) ∧ KRep G e.val p.2) kvs es.toList
theorem kd_find {G : Gr} {z : Str} : ∀ {kvs : List (Str × D)} {l : List DictEntry}, Paired (fun (p : Str × D) (e : DictEntry) => (∃ t, e.key = .str p.1 t) ∧ KRep G e.val p.2) kvs l →
    (match kvs.lookup z with
      | some d => ∃ e, l.find? (·.key.isStr z) = some e ∧ KRep G e.val d
      | none => l.find? (·.key.isStr z) = none) ∧ l.any (·.refKey) = false
  | _, _, .nil => ⟨rfl, rfl⟩
  | (k, d) :: kvs, e :: l, .cons ⟨⟨t, hk⟩, hr⟩ r => by
    obtain ⟨h1, h2⟩ := kd_find (z := z) r
    have hi : e.key.isStr z = (z == k) := by
      rw [hk]
      show (Value.str k t).isStr z = (z == k)
      rw [PySem.W.isStr_of]
      show (k == z) = (z == k)
      by_cases q : k = z
      · rw [q]
      · have q1 : (k == z) = false := beq_eq_false_iff_ne.mpr q
        have q2 : (z == k) = false := beq_eq_false_iff_ne.mpr fun e => q e.symm
        rw [q1, q2]
    have hrk : e.refKey = false := by
      unfold DictEntry.refKey
      rw [hk]
    refine ⟨?_, by rw [List.any_cons, hrk, h2]; rfl⟩
    rw [List.lookup_cons, List.find?_cons]
    cases q : (z == k) with
    | true =>
      rw [hi, q]
      exact ⟨e, rfl, hr⟩
    | false =>
      rw [hi, q]
      exact h1
theorem kd_ns {G : Gr} {w : World} {d : Addr} {es : Array DictEntry} {n : Nat} {kvs : List (Str × D)} {z : Str} (D1 : KDict G.K w d es n) (hp : Paired (fun (p : Str × D) (e : DictEntry) => (∃ t, e.key = .str p.1 t) ∧ KRep G e.val p.2) kvs es.toList) :
    match kvs.lookup z with
      | some dd => ∃ u, PySem.W.nsIn G.K d z = some (some u) ∧ KRep G u dd
      | none => PySem.W.nsIn G.K d z = some none := by
  obtain ⟨h1, h2⟩ := kd_find (z := z) hp
  cases q : kvs.lookup z with
  | none =>
    rw [q] at h1
    dsimp only at h1 ⊢
    unfold PySem.W.nsIn
    rw [D1.at_]
    dsimp only
    rw [h1]
    dsimp only
    rw [if_neg (by rw [h2]; decide)]
  | some dd =>
    rw [q] at h1
    dsimp only at h1 ⊢
    obtain ⟨e, he, hr⟩ := h1
    refine ⟨e.val, ?_, hr⟩
    unfold PySem.W.nsIn
    rw [D1.at_]
    dsimp only
    rw [he]
def kdIn (neg : Bool) (kvs : List (Str × D)) (x : D) (st : Sto) : Out D := match x with
  | .str z => .ok (.bl (if neg then !(kvs.lookup z).isSome else (kvs.lookup z).isSome)) st
  | _ => .bad
def kdAt (kvs : List (Str × D)) (x : D) (st : Sto) : Out D := match x with
  | .str z => (match kvs.lookup z with
    | some d => .ok d st
    | none => .bad)
  | _ => .bad
def eUn (f : D → Sto → Out D) (m : EM D) : EM D := fun env st => bnd (m env st) f
section
variable {X : Cx} {G : Gr} {W : WX} {a : Expr} {ma : EM D} {pos p : Pos} {x : Str} {kvs : List (Str × D)}
theorem tkd {neg : Bool} (hK : G.K = X.K) (D1 : KD G X.w x kvs) {σ : L2.St} {H : Hp} {Q : VK} {d : Addr} (hd : G.mg x = some (.ref d)) (h : dE G W (eUn (kdIn neg kvs) ma) σ H Q) :
    tOp (fun x y H Q => ∃ (z : Str) (r : Option Value), x = .str z ∧ y = .ref d ∧ PySem.W.nsIn X.K d z = some r ∧ Q (.bl (if neg then !r.isSome else r.isSome)) H) (dE G W ma) (tC (.ref d)) σ H Q := by
  obtain ⟨d1, es, n, hd1, K1, hp⟩ := D1.ex
  rw [hd] at hd1
  have e : d = d1 := by injection (Option.some.inj hd1)
  subst e
  obtain ⟨w, env, st, rs, re, h⟩ := h
  refine ⟨w, env, st, rs, re, Fit.bind h fun dx st1 w1 H1 v rs1 e1 rv h1 => ?_⟩
  cases rv with
  | str z =>
    have q := kd_ns (z := z) K1 hp
    unfold kdIn at h1
    dsimp only at h1
    cases l : kvs.lookup z with
    | none =>
      rw [l] at q h1
      exact ⟨z, none, rfl, rfl, by rw [← hK]; exact q, h1.now rs1 (.bl _)⟩
    | some dd =>
      rw [l] at q h1
      obtain ⟨u, hu, _⟩ := q
      exact ⟨z, some u, rfl, rfl, by rw [← hK]; exact hu, h1.now rs1 (.bl _)⟩
  | _ => exact h1.elim
theorem de_kin (hK : G.K = X.K) (hM : G.mg = X.mg) (D1 : KD G X.w x kvs) (hg : Gl X x) (ha : PE X a (dE G W ma)) (hm : behindInMarks .In (.Name x p) = false := by rfl) (hdb : (x == ("__debug__" : Str)) = false := by decide) : PE X (.Compare a [.In] [.Name x p] pos) (dE G W (eUn (kdIn false kvs) ma)) := by
  obtain ⟨d, es, n, hd, K1, hp⟩ := id D1.ex
  exact PE.imp (pe_cmpR (op_in_kd (by rw [← hK]; exact K1)) ha (pe_glob (v := .ref d) hg (by rw [← hM]; exact hd) rfl hdb) hm) fun _ _ _ h => tkd (neg := false) hK D1 hd h
theorem de_knin (hK : G.K = X.K) (hM : G.mg = X.mg) (D1 : KD G X.w x kvs) (hg : Gl X x) (ha : PE X a (dE G W ma)) (hm : behindInMarks .NotIn (.Name x p) = false := by rfl) (hdb : (x == ("__debug__" : Str)) = false := by decide) : PE X (.Compare a [.NotIn] [.Name x p] pos) (dE G W (eUn (kdIn true kvs) ma)) := by
  obtain ⟨d, es, n, hd, K1, hp⟩ := id D1.ex
  exact PE.imp (pe_cmpR (op_notIn_kd (by rw [← hK]; exact K1)) ha (pe_glob (v := .ref d) hg (by rw [← hM]; exact hd) rfl hdb) hm) fun _ _ _ h => tkd (neg := true) hK D1 hd h
theorem de_kat (hK : G.K = X.K) (hM : G.mg = X.mg) (D1 : KD G X.w x kvs) (hg : Gl X x) (ha : PE X a (dE G W ma)) (hp0 : PlainIx a := by exact fun _ _ => rfl) (hdb : (x == ("__debug__" : Str)) = false := by decide) : PE X (.Subscript (.Name x p) a pos) (dE G W (eUn (kdAt kvs) ma)) := by
  obtain ⟨d, es, n, hd, K1, hp⟩ := id D1.ex
  refine PE.imp (pe_ix ix_kdict (pe_glob (v := .ref d) hg (by rw [← hM]; exact hd) rfl hdb) ha hp0) fun σ H Q h => ?_
  obtain ⟨w, env, st, rs, re, h⟩ := h
  refine ⟨w, env, st, rs, re, Fit.bind h fun dx st1 w1 H1 v rs1 e1 rv h1 => ?_⟩
  cases rv with
  | str z =>
    have q := kd_ns (z := z) K1 hp
    unfold kdAt at h1
    dsimp only at h1
    cases l : kvs.lookup z with
    | none => rw [l] at h1; exact h1.elim
    | some dd =>
      rw [l] at q h1
      obtain ⟨u, hu, v0, rv0, rep⟩ := q
      exact ⟨d, z, v0, rfl, rfl, ⟨es, n, u, by rw [← hK]; exact K1.at_, K1.lit, by rw [← hK]; exact hu, rv0⟩, h1.now rs1 (rep _ _)⟩
  | _ => exact h1.elim
end

/-! ### a def of the program as a fact; the end of a law -/
/-- the def x computes m -/
def Has (P : Program) (w : World) (base : Heap) (G : Gr) (x : Str) (ps : List Str) (k : Nat) (m : List D → Sto → Out D) : Prop :=
  ∃ (f : Addr) (fd : FuncData), G.mg x = some (.ref f) ∧ PySem.W.keepIn G.K (.ref f) = true ∧ Binds G.K fd ps [] ∧ FnOk P w G.K G.mg base (L2.CX P w) k f fd ps (spM G ps.length m)
section
variable {X : Cx} {G : Gr} {W : WX} {e : Expr} {es : List Expr} {mr : EM (List D)} {pos p : Pos}
theorem de_has {x : Str} {ps : List Str} {n k : Nat} {m : List D → Sto → Out D} (F : Has X.prog X.w X.base G x ps k m) (hn : ps.length = n) (hK : G.K = X.K) (hM : G.mg = X.mg) (hr : Room k X.A) (hg : Gl X x) (tk : Takes X W) (ha : PA X (e :: es) (dA G W mr)) (hdb : (x == ("__debug__" : Str)) = false := by decide)
    (he : starEach (e :: es) X.env = (false, eval e X.env) :: starEach es X.env := by rfl) (hpl : (backTo pos (starEach es X.env)).any (·.1) = false := by rfl) : PE X (.Call (.Name x p) (e :: es) [] pos) (dE G W (eCall n m mr)) := by
  obtain ⟨f, fd, h1, h2, h3, h4⟩ := F
  subst hn
  rw [hK, hM] at h4
  rw [hM] at h1
  rw [hK] at h2 h3
  exact de_call h4 hr hg h1 h2 h3 tk ha hdb he hpl
end
theorem law_at {l : PySem.W.OpenLaw} {w : World} {K : PySem.W.Frag} {k : Nat} {x : Str} {mg : Str → Option Value} {fa : Addr} {h : Heap} {cs : List (Addr × Addr)} {T : List (Addr × Str)} {m : List D → Sto → Out D} {fd : FuncData}
    (hT : ∀ p ∈ cs, h.get? p.2 = some { cls := .none, data := .fields #[] }) (nT : ∀ p ∈ cs, K.lookup p.2 = none) (C : ∀ p ∈ cs, PySem.W.CodeHd h p.1 p.2) (hb : ∀ (s : Shared) (u : Value), BindsTo s fd ⟨[u], []⟩ [(x, u)]) (hTc : ∀ p ∈ T, p.1 ∈ cs.map (·.2))
    (hm : ∀ ns : List Int, ns.length ≤ 63 → (∀ z ∈ ns, Builtin.Int.intBits z ≤ 1048576) → ∃ st, m [.scr ns] [] = .ok (.bl true) st)
    (F : ∀ base : Heap, K.In base → base.Ns mainGlobals mg → (∀ p ∈ cs, LamX.TabB base mg p.1 p.2) → FnOk l.prog w K mg base (L2.CX l.prog w) k fa fd [x] (spM ⟨K, mg, T⟩ 1 m)) :
    LamX.LawAtS l w K (L2.CX l.prog w) k 63 x mg fa h := by
  refine ⟨fd, cs, _, hT, nT, C, hb, fun H a ns hl hbits hH hS => ?_, F⟩
  refine ⟨rfl, ⟨[], fun _ => False⟩, [.scr ns], [], ⟨rfl, by simp, fun a z => z.elim, fun n a ds h => by simp at h, fun n a ds h => by simp at h, fun n a c h => by simp at h, fun p hp => ?_⟩, .cons (.scr ?_) .nil, ?_⟩
  · obtain ⟨q, hq, e⟩ := List.mem_map.mp (hTc p hp)
    exact LamX.TabS.nil (by rw [← e]; exact hH q hq)
  · rcases hS with hS | hS
    · exact .inl ⟨hS, fun z => z⟩
    · exact .inr hS
  · obtain ⟨st, e⟩ := hm ns hl hbits
    rw [e]
    intro w' H' v rs ex r
    cases r
    rfl
end DL

set_option Elab.async false
set_option linter.all false
set_option maxRecDepth 100000
set_option maxHeartbeats 2000000
namespace DL
open PySem PySem.Spec PyProof.Rows L2

section
variable {X : Cx} {G : Gr} {W : WX} {a b c : Expr} {ma mb mc : EM D} {pos : Pos}
/-- two lists put together, as a cell -/
def oAddC (x y : D) (st : Sto) : Out D := match lstOf st x, lstOf st y with
  | some ds, some es => if (ds ++ es).length ≤ 100000 then .ok (.cel st.length) (st ++ [.lst (ds ++ es)]) else .bad
  | _, _ => .bad
theorem calm_addC (x y : D) (st : Sto) : Calm (oAddC x y st) := by
  unfold oAddC
  split
  · split <;> trivial
  · trivial
theorem ops_addC : OpS X G rCat oAddC := by
  intro w st H x y dx dy Q rs rx ry h
  unfold oAddC at h
  split at h
  · rename_i ds es h1 h2
    split at h
    · rename_i hl
      obtain ⟨pa, xs, rfl, ea, qa⟩ := rx.lstAt rs h1
      obtain ⟨pb, ys, rfl, eb, qb⟩ := ry.lstAt rs h2
      refine ⟨pa, pb, xs, ys, rfl, rfl, ea, eb, by rw [qa.length, qb.length, ← List.length_append]; exact le_line hl, fun p hp => ?_⟩
      obtain ⟨k1, k2, k3⟩ := rs.newC hp (qa.append qb)
      exact h _ _ _ k1 k2 k3
    · exact h.elim
  · exact h.elim
theorem de_addC (ha : PE X a (dE G W ma)) (hb : PE X b (dE G W mb)) : PE X (.BinOp a .Add b pos) (dE G W (eOp oAddC ma mb)) := de_op op_cat ops_addC calm_addC ha hb
/-- {} -/
theorem de_dic : PE X (.Dict [] [] pos) (dE G W (eC .dic)) := PE.imp pe_dnewK fun σ H Q ⟨w, env, st, rs, re, h⟩ p hp =>
  h _ _ _ (rs.new hp) (Ext.new hp) (.dic upd_same (rs.notLive hp))
/-- - a -/
def negO (x : D) (st : Sto) : Out D := match x with
  | .int i => .ok (.int (-i)) st
  | _ => .bad
theorem de_neg (ha : PE X a (dE G W ma)) : PE X (.UnaryOp .USub a pos) (dE G W (eUn negO ma)) := PE.imp (pe_un un_neg ha) fun σ H Q ⟨w, env, st, rs, re, h⟩ => by
  refine ⟨w, env, st, rs, re, Fit.bind h fun d st1 w1 H1 v rs1 e1 rv h1 => ?_⟩
  unfold negO at h1
  cases rv with
  | int i => exact ⟨i, rfl, h1.now rs1 (.int _)⟩
  | _ => exact h1.elim
/-- a op b op' c -/
def eChain (f f' : D → D → Sto → Out D) (ma mb mc : EM D) : EM D := fun env st => bnd (ma env st) fun x st => bnd (mb env st) fun y st => bnd (f x y st) fun z st => match z with
  | .bl true => bnd (mc env st) fun u st => f' y u st
  | .bl false => .ok (.bl false) st
  | _ => .bad
theorem dchain {r r' : R2} {f f' : D → D → Sto → Out D} (hr : OpS X G r f) (hr' : OpS X G r' f') (hc : ∀ x y st, Calm (f x y st)) (hc' : ∀ x y st, Calm (f' x y st)) {σ : L2.St} {H : Hp} {Q : VK} (h : dE G W (eChain f f' ma mb mc) σ H Q) : tChain r r' (dE G W ma) (dE G W mb) (dE G W mc) σ H Q := by
  obtain ⟨w, env, st, rs, re, h⟩ := h
  refine ⟨w, env, st, rs, re, Fit.bind h fun dx st1 w1 H1 x rs1 e1 rx h1 => ?_⟩
  refine ⟨w1, env, st1, rs1, re.ext e1, Fit.bind h1 fun dy st2 w2 H2 y rs2 e2 ry h2 => ?_⟩
  refine hr w2 st2 H2 x y dx dy _ rs2 (rx.ext e2) ry (fit_calm (E := fun c d H' => W c d σ H') (Fit.bind h2 fun dz st3 w3 H3 z rs3 e3 rz h3 => ?_) (hc _ _ _))
  cases rz with
  | bl k =>
    refine ⟨k, rfl, ?_⟩
    cases k with
    | false => exact ite_ff (h3.now rs3 (.bl false))
    | true =>
      refine ite_tt ⟨w3, env, st3, rs3, (re.ext e1).ext (e2.trans e3), Fit.bind h3 fun du st4 w4 H4 u rs4 e4 ru h4 => ?_⟩
      exact hr' w4 st4 H4 y u dy du Q rs4 (ry.ext (e3.trans e4)) ru (fit_calm h4 (hc' _ _ _))
  | _ => exact h3.elim
theorem de_lele (ha : PE X a (dE G W ma)) (hb : PE X b (dE G W mb)) (hc : PE X c (dE G W mc)) (hm : lastMarks [.LtE, .LtE] [b, c] = false := by with_unfolding_all rfl) : PE X (.Compare a [.LtE, .LtE] [b, c] pos) (dE G W (eChain oLe oLe ma mb mc)) :=
  PE.imp (pe_chain op_le op_le ha hb hc hm) fun _ _ _ h => dchain (X := X) (ops_i0 fun _ _ _ _ => .bl _) (ops_i0 fun _ _ _ _ => .bl _) calm_ii calm_ii h
end
section
variable {X : Cx} {G : Gr} {W : WX} {a : Expr} {ma : EM D} {pos p : Pos} {x : Str} {kvs : List (Str × D)}
theorem dT.test {m : EM D} {σ : L2.St} {H : Hp} {Q : Bool → Hp → Prop} (h : dT G W (tOf m) σ H Q) : dE G W m σ H (fun x H' => ∃ k, x = .bl k ∧ Q k H') := by
  obtain ⟨w, env, st, rs, re, h⟩ := h
  exact ⟨w, env, st, rs, re, Fit.bind h fun d st1 w1 H1 v rs1 e1 rv h1 => fit_tOf rs1 rv h1⟩
theorem dt_kin (hK : G.K = X.K) (hM : G.mg = X.mg) (D1 : KD G X.w x kvs) (hg : Gl X x) (ha : PE X a (dE G W ma)) (hm : behindInMarks .In (.Name x p) = false := by rfl) (hdb : (x == ("__debug__" : Str)) = false := by decide) : PT X (.Compare a [.In] [.Name x p] pos) (dT G W (tOf (eUn (kdIn false kvs) ma))) := by
  obtain ⟨d, es, n, hd, K1, hp⟩ := id D1.ex
  exact PT.imp (pt_cmpR (op_in_kd (by rw [← hK]; exact K1)) ha (pe_glob (v := .ref d) hg (by rw [← hM]; exact hd) rfl hdb) hm) fun _ _ _ h => tkd (neg := false) hK D1 hd h.test
theorem dt_knin (hK : G.K = X.K) (hM : G.mg = X.mg) (D1 : KD G X.w x kvs) (hg : Gl X x) (ha : PE X a (dE G W ma)) (hm : behindInMarks .NotIn (.Name x p) = false := by rfl) (hdb : (x == ("__debug__" : Str)) = false := by decide) : PT X (.Compare a [.NotIn] [.Name x p] pos) (dT G W (tOf (eUn (kdIn true kvs) ma))) := by
  obtain ⟨d, es, n, hd, K1, hp⟩ := id D1.ex
  exact PT.imp (pt_cmpR (op_notIn_kd (by rw [← hK]; exact K1)) ha (pe_glob (v := .ref d) hg (by rw [← hM]; exact hd) rfl hdb) hm) fun _ _ _ h => tkd (neg := true) hK D1 hd h.test
end
/-- as many turns as the number in the slot says -/
def fuelAt (i : Nat) (env : Env') : Nat := match env[i]? with
  | some (some (.int z)) => z.natAbs + 1
  | _ => 0
theorem Has.none {P : Program} {w : World} {base : Heap} {G : Gr} {x : Str} {ps : List Str} {k : Nat} {f : Addr} {fd : FuncData} (hf : G.mg x = some (.ref f)) (hk : PySem.W.keepIn G.K (.ref f) = true) (hb : Binds G.K fd ps []) : Has P w base G x ps k (fun _ _ => .bad) :=
  ⟨f, fd, hf, hk, hb, ⟨fun vs H Q E h => h.1, fun A outer s H args us vs Q E _ _ _ _ h => by
    obtain ⟨_, w1, ds, st, _, _, z⟩ := h
    exact z.elim⟩⟩
end DL

set_option Elab.async false
set_option linter.all false
set_option maxRecDepth 100000
set_option maxHeartbeats 2000000
namespace DL
open PySem PySem.Spec PyProof.Rows L2
/-! ### what comes out, in plain logic -/
abbrev EK := Str → List (Str × D) → Sto → Prop
/-- a value comes out as P says, or an error as E says -/
def Wp {α : Type} (x : Out α) (P : α → Sto → Prop) (E : EK) : Prop := match x with
  | .ok a st => P a st
  | .err c fs st => E c fs st
  | .bad => False
/-- the same of a statement: N for going on, R for a returned value -/
def WS (x : OutS) (N : Env' → Sto → Prop) (R : D → Sto → Prop) (E : EK) : Prop := match x with
  | .nx env st => N env st
  | .rt d st => R d st
  | .err c fs _ st => E c fs st
  | _ => False
abbrev E_ : EK := fun _ _ _ => False
section
variable {α β : Type} {P Q : α → Sto → Prop} {E E' : EK} {N N' : Env' → Sto → Prop} {R R' : D → Sto → Prop} {st : Sto} {env : Env'}
theorem Wp.imp {x : Out α} (h : Wp x P E) (hp : ∀ a st, P a st → Q a st) (he : ∀ c fs st, E c fs st → E' c fs st) : Wp x Q E' := by
  cases x with
  | ok a st => exact hp _ _ h
  | err c fs st => exact he _ _ _ h
  | bad => exact h
theorem Wp.mp {x : Out α} (h : Wp x P E_) (hp : ∀ a st, P a st → Q a st) : Wp x Q E := h.imp hp fun _ _ _ z => z.elim
theorem Wp.eq {x : Out α} {a : α} (h : Wp x (fun b s => b = a ∧ s = st) E_) : x = .ok a st := by
  cases x with
  | ok b s => obtain ⟨rfl, rfl⟩ := (show b = a ∧ s = st from h); rfl
  | err c fs s => exact (show False from h).elim
  | bad => exact (show False from h).elim
theorem Wp.ok_of {x : Out α} (h : Wp x P E_) : ∃ a st, x = .ok a st ∧ P a st := by
  cases x with
  | ok b s => exact ⟨b, s, rfl, h⟩
  | err c fs s => exact (show False from h).elim
  | bad => exact (show False from h).elim
theorem WS.imp {x : OutS} (h : WS x N R E) (hn : ∀ e s, N e s → N' e s) (hr : ∀ d s, R d s → R' d s) (he : ∀ c fs s, E c fs s → E' c fs s) : WS x N' R' E' := by
  cases x with
  | nx e s => exact hn _ _ h
  | rt d s => exact hr _ _ h
  | err c fs e s => exact he _ _ _ h
  | bk _ _ => exact h
  | ct _ _ => exact h
  | bad => exact h
@[simp] theorem Wp_ok (a : α) : Wp (.ok a st) P E = P a st := rfl
@[simp] theorem Wp_err (c : Str) (fs : List (Str × D)) : Wp (α := α) (.err c fs st) P E = E c fs st := rfl
@[simp] theorem Wp_bad : Wp (α := α) .bad P E = False := rfl
@[simp] theorem Wp_bnd {Q : β → Sto → Prop} (x : Out α) (f : α → Sto → Out β) : Wp (bnd x f) Q E = Wp x (fun a s => Wp (f a s) Q E) E := by cases x <;> rfl
@[simp] theorem WS_bndS (x : Out α) (f : α → Sto → OutS) : WS (bndS env x f) N R E = Wp x (fun a s => WS (f a s) N R E) E := by cases x <;> rfl
@[simp] theorem WS_nx : WS (.nx env st) N R E = N env st := rfl
@[simp] theorem WS_rt (d : D) : WS (.rt d st) N R E = R d st := rfl
@[simp] theorem WS_bad : WS .bad N R E = False := rfl
@[simp] theorem WS_err (c : Str) (fs : List (Str × D)) : WS (.err c fs env st) N R E = E c fs st := rfl
@[simp] theorem WS_seq (m1 m2 : SM) : WS (sSeq m1 m2 env st) N R E = WS (m1 env st) (fun e s => WS (m2 e s) N R E) R E := by
  unfold sSeq
  cases m1 env st <;> rfl
@[simp] theorem WS_sNx : WS (sNx env st) N R E = N env st := rfl
@[simp] theorem WS_ret (me : EM D) : WS (sRet me env st) N R E = Wp (me env st) R E := by unfold sRet; rw [WS_bndS]; rfl
@[simp] theorem WS_exp (me : EM D) : WS (sExp me env st) N R E = Wp (me env st) (fun _ s => N env s) E := by unfold sExp; rw [WS_bndS]; rfl
@[simp] theorem WS_if (mt : EM Bool) (m1 m2 : SM) : WS (sIf mt m1 m2 env st) N R E = Wp (mt env st) (fun c s => if c then WS (m1 env s) N R E else WS (m2 env s) N R E) E := by
  unfold sIf
  rw [WS_bndS]
  congr
  funext c s
  cases c <;> rfl
/-- what a target makes -/
def WG (o : Option (Env' × Sto)) (N : Env' → Sto → Prop) : Prop := match o with
  | some (e, s) => N e s
  | none => False
@[simp] theorem WG_some (e : Env') (s : Sto) : WG (some (e, s)) N = N e s := rfl
@[simp] theorem WG_none : WG none N = False := rfl
@[simp] theorem WS_asg (me : EM D) (g : GM) : WS (sAsg me g env st) N R E = Wp (me env st) (fun d s => WG (g d env s) N) E := by
  unfold sAsg
  rw [WS_bndS]
  congr
  funext d s
  cases h : g d env s with
  | none => rfl
  | some p => obtain ⟨e', s'⟩ := p; rfl
@[simp] theorem gN_eq (i : Nat) (d : D) : gN i d env st = some (env.set i (some d), st) := rfl
@[simp] theorem WS_par (k j : Nat) (a b : EM D) : WS (sPar k j (aCons a (aCons b aNil)) env st) N R E = Wp (a env st) (fun x s => Wp (b env s) (fun y s => N ((env.set k (some x)).set j (some y)) s) E) E := by
  unfold sPar aCons aNil
  simp only [WS_bndS, Wp_bnd, Wp_ok, WS_nx]
@[simp] theorem WS_raise (c f : Str) (me : EM D) : WS (sRaise c f me env st) N R E = Wp (me env st) (fun d s => E c [(f, d)] s) E := by unfold sRaise; rw [WS_bndS]; rfl
@[simp] theorem Wp_run (n : Nat) (m : SM) (ds : List D) {P : D → Sto → Prop} : Wp (runM n m ds st) P E = WS (m (startE n ds) st) (fun _ s => P .non s) P E := by
  unfold runM
  cases m (startE n ds) st <;> rfl
/-! expressions -/
section
variable {P : D → Sto → Prop} {PB : Bool → Sto → Prop} {PL : List D → Sto → Prop}
@[simp] theorem Wp_eC (d : D) : Wp (eC d env st) P E = P d st := rfl
@[simp] theorem Wp_eV (i : Nat) : Wp (eV i env st) P E = ∃ d, env[i]? = some (some d) ∧ P d st := by
  unfold eV
  cases h : env[i]? with
  | none => simp
  | some o =>
    cases o with
    | none => simp
    | some d => simp
@[simp] theorem Wp_eOp (f : D → D → Sto → Out D) (ma mb : EM D) : Wp (eOp f ma mb env st) P E = Wp (ma env st) (fun x s => Wp (mb env s) (fun y s => Wp (f x y s) P E) E) E := by
  unfold eOp; rw [Wp_bnd]; congr; funext x s; rw [Wp_bnd]
@[simp] theorem Wp_aNil : Wp (aNil env st) PL E = PL [] st := rfl
@[simp] theorem Wp_aCons (m : EM D) (mr : EM (List D)) : Wp (aCons m mr env st) PL E = Wp (m env st) (fun d s => Wp (mr env s) (fun ds s => PL (d :: ds) s) E) E := by
  unfold aCons; rw [Wp_bnd]; congr; funext x s; rw [Wp_bnd]; rfl
@[simp] theorem Wp_eTup (mr : EM (List D)) : Wp (eTup mr env st) P E = Wp (mr env st) (fun ds s => short ds = true ∧ P (.tup ds) s) E := by
  unfold eTup; rw [Wp_bnd]; congr; funext ds s; cases h : short ds <;> simp
@[simp] theorem Wp_eLst (mr : EM (List D)) : Wp (eLst mr env st) P E = Wp (mr env st) (fun ds s => short ds = true ∧ P (.lst ds) s) E := by
  unfold eLst; rw [Wp_bnd]; congr; funext ds s; cases h : short ds <;> simp
@[simp] theorem Wp_eCel (mr : EM (List D)) : Wp (eCel mr env st) P E = Wp (mr env st) (fun ds s => short ds = true ∧ P (.cel s.length) (s ++ [.lst ds])) E := by
  unfold eCel; rw [Wp_bnd]; congr; funext ds s; cases h : short ds <;> simp
@[simp] theorem Wp_eFz (m : EM D) : Wp (eFz m env st) P E = Wp (m env st) (fun d s => Wp (fzD d s) P E) E := by unfold eFz; rw [Wp_bnd]
@[simp] theorem Wp_tOf (m : EM D) : Wp (tOf m env st) PB E = Wp (m env st) (fun d s => ∃ b, d = .bl b ∧ PB b s) E := by
  unfold tOf; rw [Wp_bnd]; congr; funext d s
  cases d <;> simp [toB]
@[simp] theorem Wp_bAnd (a b : EM Bool) : Wp (bAnd a b env st) PB E = Wp (a env st) (fun c s => if c then Wp (b env s) PB E else PB false s) E := by
  unfold bAnd; rw [Wp_bnd]; congr; funext c s; cases c <;> rfl
@[simp] theorem Wp_bOr (a b : EM Bool) : Wp (bOr a b env st) PB E = Wp (a env st) (fun c s => if c then PB true s else Wp (b env s) PB E) E := by
  unfold bOr; rw [Wp_bnd]; congr; funext c s; cases c <;> rfl
@[simp] theorem Wp_bNot (a : EM Bool) : Wp (bNot a env st) PB E = Wp (a env st) (fun c s => PB (!c) s) E := by
  unfold bNot; rw [Wp_bnd]; rfl
@[simp] theorem Wp_eIf (mt : EM Bool) (a b : EM D) : Wp (eIf mt a b env st) P E = Wp (mt env st) (fun c s => if c then Wp (a env s) P E else Wp (b env s) P E) E := by
  unfold eIf; rw [Wp_bnd]; congr; funext c s; cases c <;> rfl
@[simp] theorem Wp_eAnd (a b : EM D) : Wp (eAnd a b env st) P E = Wp (a env st) (fun d s => ∃ c, d = .bl c ∧ if c then Wp (b env s) P E else P (.bl false) s) E := by
  unfold eAnd; rw [Wp_bnd]; congr; funext d s
  cases d with
  | bl c => cases c <;> simp
  | _ => simp
@[simp] theorem Wp_eOr (a b : EM D) : Wp (eOr a b env st) P E = Wp (a env st) (fun d s => ∃ c, d = .bl c ∧ if c then P (.bl true) s else Wp (b env s) P E) E := by
  unfold eOr; rw [Wp_bnd]; congr; funext d s
  cases d with
  | bl c => cases c <;> simp
  | _ => simp
@[simp] theorem Wp_eNot (a : EM D) : Wp (eNot a env st) P E = Wp (a env st) (fun d s => ∃ c, d = .bl c ∧ P (.bl (!c)) s) E := by
  unfold eNot; rw [Wp_bnd]; congr; funext d s
  cases d <;> simp
@[simp] theorem Wp_eCB (f : List D → Sto → Out D) (mr : EM (List D)) : Wp (eCB f mr env st) P E = Wp (mr env st) (fun ds s => Wp (f ds s) P E) E := by unfold eCB; rw [Wp_bnd]
@[simp] theorem Wp_eUn (f : D → Sto → Out D) (m : EM D) : Wp (eUn f m env st) P E = Wp (m env st) (fun d s => Wp (f d s) P E) E := by unfold eUn; rw [Wp_bnd]
@[simp] theorem Wp_eBM (g : D → Sto → Bool) (f : D → List D → Sto → Out D) (mo : EM D) (mr : EM (List D)) : Wp (eBM g f mo mr env st) P E = Wp (mo env st) (fun d s => g d s = true ∧ Wp (mr env s) (fun ds s => Wp (f d ds s) P E) E) E := by
  unfold eBM; rw [Wp_bnd]; congr; funext d s
  cases h : g d s <;> simp
@[simp] theorem Wp_eCall (n : Nat) (f : List D → Sto → Out D) (mr : EM (List D)) : Wp (eCall n f mr env st) P E = Wp (mr env st) (fun ds s => ds.length = n ∧ Wp (f ds s) P E) E := by
  unfold eCall; rw [Wp_bnd]; congr; funext ds s
  by_cases h : ds.length = n
  · simp [h]
  · simp [h]
@[simp] theorem Wp_eIsa (t : String) (m : EM D) : Wp (eIsa t m env st) P E = Wp (m env st) (fun d s => isFn d = false ∧ P (.bl (isaB (tyN d) t)) s) E := by
  unfold eIsa; rw [Wp_bnd]; congr; funext d s; unfold isaO; cases h : isFn d <;> simp
@[simp] theorem Wp_eIsaT (ts : List String) (m : EM D) : Wp (eIsaT ts m env st) P E = Wp (m env st) (fun d s => isFn d = false ∧ P (.bl (ts.any (isaB (tyN d)))) s) E := by
  unfold eIsaT; rw [Wp_bnd]; congr; funext d s; unfold isaT; cases h : isFn d <;> simp
@[simp] theorem Wp_eChain (f f' : D → D → Sto → Out D) (ma mb mc : EM D) : Wp (eChain f f' ma mb mc env st) P E = Wp (ma env st) (fun x s => Wp (mb env s) (fun y s => Wp (f x y s) (fun z s => ∃ c, z = .bl c ∧ if c then Wp (mc env s) (fun u s => Wp (f' y u s) P E) E else P (.bl false) s) E) E) E := by
  unfold eChain; rw [Wp_bnd]; congr; funext x s; rw [Wp_bnd]; congr; funext y s; rw [Wp_bnd]; congr; funext z s
  cases z with
  | bl c => cases c <;> simp
  | _ => simp
@[simp] theorem Wp_pN {Q : Option Int → Sto → Prop} : Wp (pN env st) Q E = Q none st := rfl
@[simp] theorem Wp_pI {Q : Option Int → Sto → Prop} (m : EM D) : Wp (pI m env st) Q E = Wp (m env st) (fun d s => ∃ i, d = .int i ∧ Q (some i) s) E := by
  unfold pI; rw [Wp_bnd]; congr; funext d s
  cases d <;> simp [toI]
@[simp] theorem Wp_eSl (m : EM D) (l h : EM (Option Int)) : Wp (eSl m l h env st) P E = Wp (m env st) (fun d s => Wp (l env s) (fun i s => Wp (h env s) (fun j s => Wp (slO d i j s) P E) E) E) E := by
  unfold eSl; simp only [Wp_bnd]
@[simp] theorem Wp_eLam (mo : (Sto → Out D) → Sto → Out D) (ml : EM D) : Wp (eLam mo ml env st) P E = Wp (mo (ml env) st) P E := rfl
@[simp] theorem Wp_aStar (m : EM D) (mr : EM (List D)) : Wp (aStar m mr env st) PL E = Wp (m env st) (fun d s => ∃ xs, seqOf s d = some xs ∧ Wp (mr env s) (fun ds s => PL (xs ++ ds) s) E) E := by
  unfold aStar; rw [Wp_bnd]; congr; funext d s
  cases h : seqOf s d with
  | none => simp
  | some xs => simp
@[simp] theorem Wp_iSq (m : EM D) : Wp (iSq m env st) PL E = Wp (m env st) (fun d s => ∃ xs, itemsOf d = some xs ∧ PL xs s) E := by
  unfold iSq; rw [Wp_bnd]; congr; funext d s
  unfold itemsO
  cases itemsOf d <;> simp
@[simp] theorem Wp_iEm (m : EM D) : Wp (iEm m env st) PL E = Wp (m env st) (fun d s => Wp (enumD d s) PL E) E := by unfold iEm; rw [Wp_bnd]
@[simp] theorem Wp_iR1 (m : EM (List D)) : Wp (iR1 m env st) PL E = Wp (m env st) (fun d s => Wp (rangeD1 d s) PL E) E := by unfold iR1; rw [Wp_bnd]
@[simp] theorem Wp_iR2 (m : EM (List D)) : Wp (iR2 m env st) PL E = Wp (m env st) (fun d s => Wp (rangeD2 d s) PL E) E := by unfold iR2; rw [Wp_bnd]
@[simp] theorem Wp_tT : Wp (tT env st) PB E = PB true st := rfl
/-! loops -/
theorem WS_for {mi : EM (List D)} {g : GM} {mb : SM} : WS (sFor mi g mb env st) N R E = Wp (mi env st) (fun ds s => WS (forM g mb ds env s) N R E) E := by unfold sFor; rw [WS_bndS]
theorem WS_forM {g : GM} {mb : SM} (I : List D → Env' → Sto → Prop) (step : ∀ d ds env st, I (d :: ds) env st → WG (g d env st) fun e s => WS (mb e s) (fun e s => I ds e s) R E) (fin : ∀ env st, I [] env st → N env st) :
    ∀ (ds : List D) (env : Env') (st : Sto), I ds env st → WS (forM g mb ds env st) N R E
  | [], env, st, h => fin env st h
  | d :: ds, env, st, h => by
    have h1 := step d ds env st h
    unfold forM
    cases q : g d env st with
    | none => rw [q] at h1; exact h1.elim
    | some p =>
      obtain ⟨e, s⟩ := p
      rw [q] at h1
      have h2 : WS (mb e s) (fun e s => I ds e s) R E := h1
      dsimp only
      cases q2 : mb e s with
      | nx e2 s2 => rw [q2] at h2; exact WS_forM I step fin ds e2 s2 h2
      | rt d s2 => rw [q2] at h2; exact h2
      | err c fs e2 s2 => rw [q2] at h2; exact h2
      | bk _ _ => rw [q2] at h2; exact h2.elim
      | ct _ _ => rw [q2] at h2; exact h2.elim
      | bad => rw [q2] at h2; exact h2.elim
theorem WS_while {fuel : Env' → Nat} {mt : EM Bool} {mb : SM} (I : Nat → Env' → Sto → Prop) (step : ∀ n env st, I n env st → ∃ k, n = k + 1 ∧ Wp (mt env st) (fun c s => if c then WS (mb env s) (fun e s => I k e s) R E else N env s) E) (h : I (fuel env) env st) : WS (sWhile fuel mt mb env st) N R E := by
  unfold sWhile
  have key : ∀ n env st, I n env st → WS (whileM mt mb n env st) N R E := by
    intro n
    induction n with
    | zero =>
      intro env st h
      obtain ⟨k, hk, _⟩ := step 0 env st h
      omega
    | succ n ih =>
      intro env st h
      obtain ⟨k, hk, h1⟩ := step _ env st h
      have hk' : k = n := by omega
      subst hk'
      unfold whileM
      rw [WS_bndS]
      refine h1.imp (fun c s hc => ?_) fun _ _ _ z => z
      cases c with
      | false => exact hc
      | true =>
        have hc' : WS (mb env s) (fun e s => I k e s) R E := hc
        show WS (match mb env s with | .nx env2 st2 => whileM mt mb k env2 st2 | .ct env2 st2 => whileM mt mb k env2 st2 | .bk env2 st2 => .nx env2 st2 | o => o) N R E
        cases q : mb env s with
        | nx e2 s2 => rw [q] at hc'; exact ih _ _ hc'
        | rt d s2 => rw [q] at hc'; exact hc'
        | err c fs e2 s2 => rw [q] at hc'; exact hc'
        | bk _ _ => rw [q] at hc'; exact hc'.elim
        | ct _ _ => rw [q] at hc'; exact hc'.elim
        | bad => rw [q] at hc'; exact hc'.elim
  exact key _ _ _ h
theorem Wp_eLc {mi : EM (List D)} {g : GM} {mt : EM Bool} {me : EM D} {vs : List Nat} : Wp (eLc mi g mt me vs env st) P E = Wp (mi env st) (fun ds s => Wp (lcM g mt me (wipeE env vs) ds [] s) P E) E := by unfold eLc; rw [Wp_bnd]
theorem Wp_lcM {g : GM} {mt : EM Bool} {me : EM D} {env0 : Env'} (I : List D → List D → Sto → Prop) (step : ∀ d ds acc st, I (d :: ds) acc st → WG (g d env0 st) fun e s => Wp (mt e s) (fun b s => if b then Wp (me e s) (fun y s => acc.length < 100000 ∧ I ds (acc ++ [y]) s) E_ else I ds acc s) E_) (fin : ∀ acc st, I [] acc st → P (.lst acc) st) :
    ∀ (ds acc : List D) (st : Sto), I ds acc st → Wp (lcM g mt me env0 ds acc st) P E
  | [], acc, st, h => fin acc st h
  | d :: ds, acc, st, h => by
    have h1 := step d ds acc st h
    unfold lcM
    cases q : g d env0 st with
    | none => rw [q] at h1; exact h1.elim
    | some p =>
      obtain ⟨e, s⟩ := p
      rw [q] at h1
      have h2 : Wp (mt e s) (fun b s => if b then Wp (me e s) (fun y s => acc.length < 100000 ∧ I ds (acc ++ [y]) s) E_ else I ds acc s) E_ := h1
      dsimp only
      cases q2 : mt e s with
      | err c fs s2 => rw [q2] at h2; exact h2.elim
      | bad => rw [q2] at h2; exact h2.elim
      | ok b s2 =>
        rw [q2] at h2
        cases b with
        | false => exact Wp_lcM I step fin ds acc s2 h2
        | true =>
          have h3 : Wp (me e s2) (fun y s => acc.length < 100000 ∧ I ds (acc ++ [y]) s) E_ := h2
          show Wp (match me e s2 with | .ok y st4 => if acc.length < 100000 then lcM g mt me env0 ds (acc ++ [y]) st4 else .bad | _ => .bad) P E
          cases q3 : me e s2 with
          | err c fs s2 => rw [q3] at h3; exact h3.elim
          | bad => rw [q3] at h3; exact h3.elim
          | ok y s3 =>
            rw [q3] at h3
            obtain ⟨h4, h5⟩ := (show acc.length < 100000 ∧ I ds (acc ++ [y]) s3 from h3)
            show Wp (if acc.length < 100000 then lcM g mt me env0 ds (acc ++ [y]) s3 else .bad) P E
            rw [if_pos h4]
            exact Wp_lcM I step fin ds _ s3 h5
end
end
end DL

set_option Elab.async false
set_option linter.all false
set_option maxRecDepth 100000
set_option maxHeartbeats 2000000
namespace DL
open PySem PySem.Spec PyProof.Rows L2
/-! ### the end: what stands at the program's top -/
/-- the def x, its text s1, stands there -/
def FnAt (K : PySem.W.Frag) (mg : Str → Option Value) (x : Str) (s1 : Stmt) : Prop := ∃ (f : Addr) (fd : FuncData), mg x = some (.ref f) ∧ Fun K x x s1 f fd
theorem fnAt_mk {K : PySem.W.Frag} {h : Heap} {mg : Str → Option Value} {x : Str} {s1 : Stmt} {f : Addr} {oc kV dc pm cd ct : Value} {od an : Option Addr} {sl : Array (Option Value)} (X : K.In h) (G : h.Ns mainGlobals mg) (a : PySem.W.nsIn K mainGlobals x = some (some (.ref f)))
    (l : K.lookup f = some ⟨oc, od, .func (PySem.W.fnOf x x (defArgs s1) (defBody s1) (defScope s1) .none kV dc pm an cd ct), sl⟩) (c : PySem.W.codeIn K cd x = true) (k : PySem.W.keepIn K (.ref f) = true) : FnAt K mg x s1 :=
  ⟨f, _, PySem.W.mg_of X G a, fun_mk l c k⟩
theorem krep_tup2s {K : PySem.W.Frag} {mg : Str → Option Value} {T : List (Addr × Str)} {q : Addr} {od : Option Addr} {sl : Array (Option Value)} {n : Nat} {x y : Str} {t1 t2 : Tok} (hl : K.lookup q = some ⟨.type "tuple", od, .seq #[.str x t1, .str y t2] n, sl⟩) : KRep ⟨K, mg, T⟩ (.ref q) (.tup [.str x, .str y]) :=
  krep_tup (its := [.str x t1, .str y t2]) (xs := [.str x, .str y]) hl rfl rfl (by show 2 ≤ sizeLine; decide) (.cons ⟨t1, rfl⟩ (.cons ⟨t2, rfl⟩ .nil)) fun _ _ => .cons (.str x) (.cons (.str y) .nil)
theorem krep_tup2i {K : PySem.W.Frag} {mg : Str → Option Value} {T : List (Addr × Str)} {q : Addr} {od : Option Addr} {sl : Array (Option Value)} {n : Nat} {x y : Int} {t1 t2 : Tok} (hl : K.lookup q = some ⟨.type "tuple", od, .seq #[.int x t1, .int y t2] n, sl⟩) : KRep ⟨K, mg, T⟩ (.ref q) (.tup [.int x, .int y]) :=
  krep_tup (its := [.int x t1, .int y t2]) (xs := [.int x, .int y]) hl rfl rfl (by show 2 ≤ sizeLine; decide) (.cons ⟨t1, rfl⟩ (.cons ⟨t2, rfl⟩ .nil)) fun _ _ => .cons (.int x) (.cons (.int y) .nil)
theorem kd_mk {K : PySem.W.Frag} {mg : Str → Option Value} {T : List (Addr × Str)} {w : World} {x : Str} {d : Addr} {es : Array DictEntry} {n : Nat} {kvs : List (Str × D)} (h1 : mg x = some (.ref d)) (h2 : K.lookup d = some ⟨.type "dict", none, .dict es n, #[]⟩) (h3 : PySem.W.KeysLit w.params es.toList) (h4 : (d == sysModules) = false)
    (h5 : Paired (fun (p : Str × D) (e : DictEntry) => (∃ t, e.key = .str p.1 t) ∧ KRep ⟨K, mg, T⟩ e.val p.2) kvs es.toList) : KD ⟨K, mg, T⟩ w x kvs := ⟨d, es, n, h1, ⟨h2, h3, h4⟩, h5⟩
/-- a class of errors with one field, its maker's text s1 -/
theorem errC_mk {K : PySem.W.Frag} {h : Heap} {mg : Str → Option Value} {c f q1 : Str} {s1 : Stmt} {C fI : Addr} {nm q : Str} {N : Addr} {bs bm : List Value} {sn : List Str} {sub : List Value} {ab : Bool} {col : Option Bool} {dd : Option Addr} {m0 m1 m2 m3 m5 : Option Value} {oc kV dc pm cd ct : Value} {od an : Option Addr} {sl : Array (Option Value)} {p1 p2 p3 p4 : Pos}
    (X : K.In h) (G : h.Ns mainGlobals mg) (a : PySem.W.nsIn K mainGlobals c = some (some (.ref C)))
    (xL : K.lookup C = some (excClassObj nm q C N bs bm true sn sub ab col dd m0 m1 m2 m3 m5 "ValueError.__new__")) (sa : PySem.W.findIn K (.ref C) "__setattr__" = some (some (.builtin "object.__setattr__"))) (ga : PySem.W.findIn K (.ref C) "__getattribute__" = some (some (.builtin "BaseException.__getattribute__"))) (gg : PySem.W.findIn K (.ref C) "__getattr__" = some none) (nb : PySem.W.findIn K (.ref C) f = some none)
    (a1 : PySem.W.findIn K (.ref C) "__init__" = some (some (.ref fI))) (t1 : PySem.W.typeIn K (.ref fI) = some (.type "function"))
    (l1 : K.lookup fI = some ⟨oc, od, .func (PySem.W.fnOf "__init__" q1 (defArgs s1) (defBody s1) (defScope s1) .none kV dc pm an cd ct), sl⟩) (c1 : PySem.W.codeIn K cd q1 = true) (k1 : PySem.W.keepIn K (.ref fI) = true)
    (kC : PySem.W.keepIn K (.ref C) = true) (eC : PySem.W.subIn K (.ref C) (.type "BaseException") = some true) (tC : PySem.W.typeIn K (.ref C) = some (.type "type")) (hC : PySem.W.hasDictIn K C = true) (hbm : PySem.HandSPX.refsVE bm = true)
    (S : FnScope ["self", f] ["self", f] (defScope s1)) (hb : defBody s1 = [.Assign [.Attribute (.Name "self" p1) f p2] (.Name f p3) p4]) (hl : (defScope s1).names.lookup ("self" : Str) = some .local) (hl2 : (defScope s1).names.lookup f = some .local)
    (hbi : ∀ (kV doc pm : Value) (an : Option Addr) (cdv ct : Value) (us : List Value), us.length = (["self", f] : List Str).length → bindArgs (PySem.W.fnOf "__init__" q1 (defArgs s1) (defBody s1) (defScope s1) .none kV doc pm an cdv ct) ⟨us, []⟩ = pure ((["self", f] : List Str).zip us))
    (hd : (f == ("__debug__" : Str)) = false := by decide) (hcd : (f == ("__classdict__" : Str)) = false := by decide) :
    ∀ (base : Heap) (P : Program) (w : World), ∃ (C fI : Addr) (fd : FuncData), ErrC P w K mg base c f C fI fd := fun base P w => by
  have F := fun_mk (st := s1) l1 c1 k1
  have T : OexC K C := ⟨⟨nm, q, N, bs, bm, sn, sub, ab, col, dd, m0, m1, m2, m3, m5, xL, hbm⟩, sa, eC, tC, kC⟩
  exact ⟨C, fI, _, ⟨T, ⟨ga, gg, eC, hC⟩, PySem.W.mg_of X G a, a1, t1, nb, init_ok F S hb T nb hl hl2 hd hcd, F.binds hbi⟩⟩
/-- an error of the class C at «except S» -/
theorem exm_of {K : PySem.W.Frag} {C S : Addr} {b : Bool} (hB : PySem.W.subIn K (.ref S) (.type "BaseException") = some true) (hI : PySem.W.isClsIn K S = true) (hT : PySem.W.typeIn K (.ref S) = some (.type "type")) (hS : PySem.W.subIn K (.ref C) (.ref S) = some b) : PySem.W.exmOne K (.ref C) (.ref S) = some b := by
  have hI' : (PySem.W.clsIn K S).isSome = true := hI
  unfold PySem.W.exmOne PySem.W.kitCls
  simp only [hB, hT, hI', hS, BEq.rfl, if_true, Bool.and_self]
/-- two classes that are told apart -/
theorem exmK2 {K : PySem.W.Frag} {mg : Str → Option Value} {c1 c2 : Str} {C1 C2 : Addr} (h1 : mg c1 = some (.ref C1)) (h2 : mg c2 = some (.ref C2)) (e1 : PySem.W.exmOne K (.ref C1) (.ref C1) = some true) (e2 : PySem.W.exmOne K (.ref C2) (.ref C2) = some true) (e3 : PySem.W.exmOne K (.ref C1) (.ref C2) = some false) (e4 : PySem.W.exmOne K (.ref C2) (.ref C1) = some false) (hne : c1 ≠ c2 := by decide) : ExmK K mg [c1, c2] := by
  intro c hc c' hc' C C' g g'
  have k : c = c1 ∨ c = c2 := by simpa using hc
  have k' : c' = c1 ∨ c' = c2 := by simpa using hc'
  rcases k with rfl | rfl <;> rcases k' with rfl | rfl
  · rw [h1] at g g'; cases g; cases g'; rw [e1]; simp
  · rw [h1] at g; rw [h2] at g'; cases g; cases g'; rw [e3]; simp [hne]
  · rw [h2] at g; rw [h1] at g'; cases g; cases g'; rw [e4]; simp [Ne.symm hne]
  · rw [h2] at g g'; cases g; cases g'; rw [e2]; simp
end DL

set_option Elab.async false
set_option linter.all false
set_option maxRecDepth 100000
set_option maxHeartbeats 4000000
namespace DL
open PySem PySem.Spec PyProof.Rows L2
namespace R
def m_is_integer : SM := (sRet (eAnd (eIsa "int" (eV 0)) (eNot (eIsa "bool" (eV 0)))))
def is_integer : List D → Sto → Out D := runM 1 m_is_integer
def m_is_natural : SM := (sRet (eAnd (eCall 1 is_integer (aCons (eV 0) aNil)) (eOp oGe (eV 0) (eC (.int 0)))))
def is_natural : List D → Sto → Out D := runM 1 m_is_natural
def m_is_list : SM := (sRet (eIsaT ["list", "tuple"] (eV 0)))
def is_list : List D → Sto → Out D := runM 1 m_is_list
def m_is_name : SM := (sRet (eAnd (eIsa "str" (eV 0)) (eAnd (eChain oLe oLe (eC (.int 1)) (eCB lenO (aCons (eV 0) aNil)) (eC (.int 8))) (eCB (allO true) (aCons (eLc (iSq (eV 0)) (gN 1) tT (eOp (inO false) (eV 1) (eC (.str "abcdefghijklmnopqrstuvwxyz"))) [1]) aNil)))))
def is_name : List D → Sto → Out D := runM 2 m_is_name
def m_is_pair : SM := (sRet (eAnd (eCall 1 is_list (aCons (eV 0) aNil)) (eOp oEq (eCB lenO (aCons (eV 0) aNil)) (eC (.int 2)))))
def is_pair : List D → Sto → Out D := runM 1 m_is_pair
def m_is_of : SM := (sRet (eAnd (eIsa "str" (eV 0)) (eOp (inO false) (eV 0) (eV 1))))
def is_of : List D → Sto → Out D := runM 2 m_is_of
def m_greatest_divisor : SM := (sSeq (sWhile (fuelAt 1) (tOf (eOp oNe (eV 1) (eC (.int 0)))) (sPar 0 1 (aCons (eV 1) (aCons (eOp oMod (eV 0) (eV 1)) aNil))))
    (sRet (eV 0)))
def greatest_divisor : List D → Sto → Out D := runM 2 m_greatest_divisor
def m_lowest : SM := (sSeq (sAsg (eCall 2 greatest_divisor (aCons (eCB absO (aCons (eV 0) aNil)) (aCons (eV 1) aNil))) (gN 2))
    (sRet (eTup (aCons (eOp oDiv (eV 0) (eV 2)) (aCons (eOp oDiv (eV 1) (eV 2)) aNil)))))
def lowest : List D → Sto → Out D := runM 3 m_lowest
def m_whole : SM := (sRet (eTup (aCons (eV 0) (aCons (eC (.int 1)) aNil))))
def whole : List D → Sto → Out D := runM 1 m_whole
def m_is_frac : SM := (sRet (eAnd (eCall 1 is_pair (aCons (eV 0) aNil)) (eAnd (eCall 1 is_integer (aCons (eOp ixO (eV 0) (eC (.int 0))) aNil)) (eAnd (eCall 1 is_integer (aCons (eOp ixO (eV 0) (eC (.int 1))) aNil)) (eOp oGe (eOp ixO (eV 0) (eC (.int 1))) (eC (.int 1)))))))
def is_frac : List D → Sto → Out D := runM 1 m_is_frac
def m_is_time : SM := (sRet (eAnd (eCall 1 is_frac (aCons (eV 0) aNil)) (eOp oGe (eOp ixO (eV 0) (eC (.int 0))) (eC (.int 0)))))
def is_time : List D → Sto → Out D := runM 1 m_is_time
def m_frac_of : SM := (sRet (eCall 2 lowest (aCons (eOp ixO (eV 0) (eC (.int 0))) (aCons (eOp ixO (eV 0) (eC (.int 1))) aNil))))
def frac_of : List D → Sto → Out D := runM 1 m_frac_of
def m_minus : SM := (sRet (eCall 2 lowest (aCons (eOp oSub (eOp oMul (eOp ixO (eV 0) (eC (.int 0))) (eOp ixO (eV 1) (eC (.int 1)))) (eOp oMul (eOp ixO (eV 1) (eC (.int 0))) (eOp ixO (eV 0) (eC (.int 1))))) (aCons (eOp oMul (eOp ixO (eV 0) (eC (.int 1))) (eOp ixO (eV 1) (eC (.int 1)))) aNil))))
def minus : List D → Sto → Out D := runM 2 m_minus
def m_is_less : SM := (sRet (eOp oLt (eOp oMul (eOp ixO (eV 0) (eC (.int 0))) (eOp ixO (eV 1) (eC (.int 1)))) (eOp oMul (eOp ixO (eV 1) (eC (.int 0))) (eOp ixO (eV 0) (eC (.int 1))))))
def is_less : List D → Sto → Out D := runM 2 m_is_less
def m_is_upto : SM := (sRet (eOp oLe (eOp oMul (eOp ixO (eV 0) (eC (.int 0))) (eOp ixO (eV 1) (eC (.int 1)))) (eOp oMul (eOp ixO (eV 1) (eC (.int 0))) (eOp ixO (eV 0) (eC (.int 1))))))
def is_upto : List D → Sto → Out D := runM 2 m_is_upto
def m_rule_at (self : List D → Sto → Out D) : SM := (sSeq (sIf (bOr (bNot (tOf (eCall 1 is_list (aCons (eV 0) aNil)))) (bOr (tOf (eOp oEq (eCB lenO (aCons (eV 0) aNil)) (eC (.int 0)))) (bOr (bNot (tOf (eIsa "str" (eOp ixO (eV 0) (eC (.int 0)))))) (tOf (eUn (kdIn true [("since", .int 5), ("soon", .int 5), ("not", .int 2), ("both", .int 3), ("either", .int 3)]) (eOp ixO (eV 0) (eC (.int 0)))))))) (sRaise "BadRule" "path" (eV 1)) sNx)
    (sSeq (sIf (tOf (eOp oNe (eCB lenO (aCons (eV 0) aNil)) (eUn (kdAt [("since", .int 5), ("soon", .int 5), ("not", .int 2), ("both", .int 3), ("either", .int 3)]) (eOp ixO (eV 0) (eC (.int 0)))))) (sRaise "BadRule" "path" (eV 1)) sNx)
    (sSeq (sIf (tOf (eOp (inO true) (eOp ixO (eV 0) (eC (.int 0))) (eC (.tup [.str "since", .str "soon"])))) (sSeq (sAsg (eLc (iEm (eSl (eV 0) (pI (eC (.int 1))) pN)) (gT 2 (gsCons (gN 5) (gsCons (gN 7) gsNil))) tT (eCall 2 self (aCons (eV 7) (aCons (eTup (aStar (eV 1) (aCons (eOp oAdd (eV 5) (eC (.int 1))) aNil))) aNil))) [5, 7]) (gN 2))
    (sRet (eTup (aCons (eOp ixO (eV 0) (eC (.int 0))) (aStar (eV 2) aNil))))) sNx)
    (sSeq (sAsg (eIf (tOf (eOp oEq (eOp ixO (eV 0) (eC (.int 0))) (eC (.str "soon")))) (eC (.tup [.str "below", .str "upto"])) (eOp oAdd (eC (.tup [.str "below", .str "upto"])) (eC (.tup [.str "from", .str "above"])))) (gN 3))
    (sSeq (sAsg (eLst (aCons (eCall 1 is_name (aCons (eOp ixO (eV 0) (eC (.int 1))) aNil)) (aCons (eCall 1 is_name (aCons (eOp ixO (eV 0) (eC (.int 2))) aNil)) (aCons (eCall 2 is_of (aCons (eOp ixO (eV 0) (eC (.int 3))) (aCons (eV 3) aNil))) (aCons (eCall 1 is_natural (aCons (eOp ixO (eV 0) (eC (.int 4))) aNil)) aNil))))) (gN 4))
    (sSeq (sFor (iEm (eV 4)) (gT 2 (gsCons (gN 5) (gsCons (gN 6) gsNil))) (sIf (bNot (tOf (eV 6))) (sRaise "BadRule" "path" (eTup (aStar (eV 1) (aCons (eOp oAdd (eV 5) (eC (.int 1))) aNil)))) sNx))
    (sRet (eCB tupleO (aCons (eV 0) aNil)))))))))
def rule_at : Nat → List D → Sto → Out D
  | 0 => fun _ _ => .bad
  | n + 1 => runM 8 (m_rule_at (rule_at n))
def m_checked_rule : SM := (sRet (eCall 2 (rule_at 8) (aCons (eV 0) (aCons (eTup aNil) aNil))))
def checked_rule : List D → Sto → Out D := runM 1 m_checked_rule
def m_checked_timed : SM := (sSeq (sIf (bNot (tOf (eCall 1 is_list (aCons (eV 0) aNil)))) (sRaise "BadRow" "index" (eC (.int 0))) sNx)
    (sSeq (sPar 1 2 (aCons (eCel aNil) (aCons (eC (.tup [.int 0, .int 1])) aNil)))
    (sSeq (sFor (iEm (eV 0)) (gT 2 (gsCons (gN 3) (gsCons (gN 4) gsNil))) (sSeq (sIf (bOr (bNot (tOf (eCall 1 is_pair (aCons (eV 4) aNil)))) (bOr (bNot (tOf (eCall 1 is_name (aCons (eOp ixO (eV 4) (eC (.int 0))) aNil)))) (bOr (bNot (tOf (eCall 1 is_time (aCons (eOp ixO (eV 4) (eC (.int 1))) aNil)))) (tOf (eCall 2 is_less (aCons (eCall 1 frac_of (aCons (eOp ixO (eV 4) (eC (.int 1))) aNil)) (aCons (eV 2) aNil))))))) (sRaise "BadRow" "index" (eV 3)) sNx)
    (sSeq (sAsg (eCall 1 frac_of (aCons (eOp ixO (eV 4) (eC (.int 1))) aNil)) (gN 2))
    (sExp (eBM isCel appO (eV 1) (aCons (eTup (aCons (eOp ixO (eV 4) (eC (.int 0))) (aCons (eV 2) aNil))) aNil))))))
    (sRet (eFz (eV 1))))))
def checked_timed : List D → Sto → Out D := runM 5 m_checked_timed
def m_is_so_long : SM := (sSeq (sIf (tOf (eOp (inO false) (eV 1) (eC (.tup [.str "below", .str "upto"])))) (sRet (eIf (tOf (eOp oEq (eV 1) (eC (.str "upto")))) (eCall 2 is_upto (aCons (eV 0) (aCons (eCall 1 whole (aCons (eV 2) aNil)) aNil))) (eCall 2 is_less (aCons (eV 0) (aCons (eCall 1 whole (aCons (eV 2) aNil)) aNil))))) sNx)
    (sRet (eIf (tOf (eOp oEq (eV 1) (eC (.str "from")))) (eCall 2 is_upto (aCons (eCall 1 whole (aCons (eV 2) aNil)) (aCons (eV 0) aNil))) (eCall 2 is_less (aCons (eCall 1 whole (aCons (eV 2) aNil)) (aCons (eV 0) aNil))))))
def is_so_long : List D → Sto → Out D := runM 3 m_is_so_long
def m_has_other : SM := (sSeq (sAsg (eV 0) (gT 5 (gsCons (gN 3) (gsCons (gN 4) (gsCons (gN 5) (gsCons (gN 6) (gsCons (gN 7) gsNil)))))))
    (sSeq (sAsg (eOp ixO (eOp ixO (eV 1) (eV 2)) (eC (.int 1))) (gN 8))
    (sSeq (sFor (iEm (eV 1)) (gT 2 (gsCons (gN 9) (gsCons (gT 2 (gsCons (gN 10) (gsCons (gN 11) gsNil))) gsNil))) (sSeq (sIf (bAnd (tOf (eOp oEq (eV 10) (eV 5))) (bAnd (tOf (eOp oEq (eV 3) (eC (.str "since")))) (bAnd (tOf (eOp oLt (eV 9) (eV 2))) (tOf (eCall 3 is_so_long (aCons (eCall 2 minus (aCons (eV 8) (aCons (eV 11) aNil))) (aCons (eV 6) (aCons (eV 7) aNil)))))))) (sRet (eC (.bl true))) sNx)
    (sIf (bAnd (tOf (eOp oEq (eV 10) (eV 5))) (bAnd (tOf (eOp oEq (eV 3) (eC (.str "soon")))) (bAnd (tOf (eOp oGt (eV 9) (eV 2))) (tOf (eCall 3 is_so_long (aCons (eCall 2 minus (aCons (eV 11) (aCons (eV 8) aNil))) (aCons (eV 6) (aCons (eV 7) aNil)))))))) (sRet (eC (.bl true))) sNx)))
    (sRet (eC (.bl false))))))
def has_other : List D → Sto → Out D := runM 12 m_has_other
def m_broken_at : SM := (sSeq (sFor (iEm (eV 1)) (gT 2 (gsCons (gN 2) (gsCons (gT 2 (gsCons (gN 3) (gsCons (gN 4) gsNil))) gsNil))) (sIf (bAnd (tOf (eOp oEq (eV 3) (eOp ixO (eV 0) (eC (.int 1))))) (bNot (tOf (eCall 3 has_other (aCons (eV 0) (aCons (eV 1) (aCons (eV 2) aNil))))))) (sRet (eV 2)) sNx))
    (sRet (eC .non)))
def broken_at : List D → Sto → Out D := runM 5 m_broken_at
def m_is_kept (self : List D → Sto → Out D) : SM := (sSeq (sIf (tOf (eOp (inO false) (eOp ixO (eV 0) (eC (.int 0))) (eC (.tup [.str "since", .str "soon"])))) (sRet (eOp oIsN (eCall 2 broken_at (aCons (eV 0) (aCons (eV 1) aNil))) (eC .non))) sNx)
    (sSeq (sAsg (eLc (iSq (eSl (eV 0) (pI (eC (.int 1))) pN)) (gN 3) tT (eCall 2 self (aCons (eV 3) (aCons (eV 1) aNil))) [3]) (gN 2))
    (sSeq (sIf (tOf (eOp oEq (eOp ixO (eV 0) (eC (.int 0))) (eC (.str "not")))) (sRet (eNot (eOp ixO (eV 2) (eC (.int 0))))) sNx)
    (sRet (eIf (tOf (eOp oEq (eOp ixO (eV 0) (eC (.int 0))) (eC (.str "both")))) (eCB (allO true) (aCons (eV 2) aNil)) (eCB (allO false) (aCons (eV 2) aNil)))))))
def is_kept : Nat → List D → Sto → Out D
  | 0 => fun _ _ => .bad
  | n + 1 => runM 4 (m_is_kept (is_kept n))
def m_keeps : SM := (sSeq (sAsg (eCall 1 checked_rule (aCons (eV 0) aNil)) (gN 2))
    (sRet (eCall 2 (is_kept 8) (aCons (eV 2) (aCons (eCall 1 checked_timed (aCons (eV 1) aNil)) aNil)))))
def keeps : List D → Sto → Out D := runM 3 m_keeps
def m_check_plain : SM := (sSeq (sAsg (eCall 1 checked_rule (aCons (eV 0) aNil)) (gN 1))
    (sSeq (sIf (tOf (eOp (inO true) (eOp ixO (eV 1) (eC (.int 0))) (eC (.tup [.str "since", .str "soon"])))) (sRaise "NotPlain" "rule" (eV 0)) sNx)
    (sRet (eV 1))))
def check_plain : List D → Sto → Out D := runM 2 m_check_plain
def m_first_broken : SM := (sSeq (sAsg (eCall 1 check_plain (aCons (eV 0) aNil)) (gN 2))
    (sRet (eCall 2 broken_at (aCons (eV 2) (aCons (eCall 1 checked_timed (aCons (eV 1) aNil)) aNil)))))
def first_broken : List D → Sto → Out D := runM 3 m_first_broken
def m_L_source : SM := (sSeq (sAsg (eTup (aCons (eC (.int 0)) (aCons (eC (.int 23)) aNil))) (gT 2 (gsCons (gN 1) (gsCons (gN 2) gsNil))))
    (sSeq (sFor (iSq (eV 0)) (gN 3) (sSeq (sIf (bAnd (tOf (eOp oEq (eV 1) (eC (.int 0)))) (tOf (eOp oGe (eV 3) (eOp oPow (eC (.int 10)) (eC (.int 18)))))) (sAsg (eV 3) (gN 1)) sNx)
    (sAsg (eOp oMod (eCB intO (aCons (eOp oAdd (eOp oAdd (eOp oMul (eV 2) (eC (.int 37))) (eV 3)) (eC (.int 5))) aNil)) (eC (.int 2147483647))) (gN 2))))
    (sRet (eCel (aCons (eV 1) (aCons (eV 2) (aCons (eC (.int 0)) aNil)))))))
def L_source : List D → Sto → Out D := runM 4 m_L_source
def m_L_draw : SM := (sSeq (sAsg (eOp oAdd (eOp ixO (eV 0) (eC (.int 2))) (eC (.int 1))) (gS (eV 0) (eC (.int 2))))
    (sSeq (sIf (tOf (eOp oGt (eOp ixO (eV 0) (eC (.int 0))) (eC (.int 1)))) (sSeq (sAsg (eOp oMod (eCB intO (aCons (eOp ixO (eV 0) (eC (.int 0))) aNil)) (eV 1)) (gN 2))
    (sSeq (sAsg (eOp oDiv (eOp ixO (eV 0) (eC (.int 0))) (eV 1)) (gS (eV 0) (eC (.int 0))))
    (sRet (eV 2)))) sNx)
    (sSeq (sAsg (eOp oMod (eOp oPow (eOp oAdd (eOp ixO (eV 0) (eC (.int 1))) (eOp oMul (eC (.int 6997)) (eOp ixO (eV 0) (eC (.int 2))))) (eC (.int 5))) (eC (.int 2147483629))) (gN 3))
    (sRet (eOp oMod (eOp oMod (eOp oPow (eOp oAdd (eOp oAdd (eOp oMul (eV 3) (eC (.int 48271))) (eOp oMul (eOp oMul (eC (.int 16811)) (eOp ixO (eV 0) (eC (.int 2)))) (eOp ixO (eV 0) (eC (.int 2))))) (eC (.int 13))) (eC (.int 3))) (eC (.int 1000000007))) (eV 1))))))
def L_draw : List D → Sto → Out D := runM 4 m_L_draw
def m_L_pick : SM := (sRet (eOp ixO (eV 1) (eCall 2 L_draw (aCons (eV 0) (aCons (eCB lenO (aCons (eV 1) aNil)) aNil)))))
def L_pick : List D → Sto → Out D := runM 2 m_L_pick
def m_L_order : SM := (sSeq (sPar 2 3 (aCons (eCB listC (aCons (eV 1) aNil)) (aCons (eCel aNil) aNil)))
    (sSeq (sFor (iR1 (aCons (eCB lenO (aCons (eV 2) aNil)) aNil)) (gN 4) (sExp (eBM isCel appO (eV 3) (aCons (eBM isCel popO (eV 2) (aCons (eCall 2 L_draw (aCons (eV 0) (aCons (eCB lenO (aCons (eV 2) aNil)) aNil))) aNil)) aNil))))
    (sRet (eFz (eV 3)))))
def L_order : List D → Sto → Out D := runM 5 m_L_order
def m_L_words : SM := (sSeq (sAsg (eTup (aCons (eC (.str "abcdefghijklmnopqrstuvwxyz")) (aCons (eCel aNil) aNil))) (gT 2 (gsCons (gN 2) (gsCons (gN 3) gsNil))))
    (sSeq (sFor (iR1 (aCons (eV 1) aNil)) (gN 4) (sSeq (sAsg (eCall 2 L_pick (aCons (eV 0) (aCons (eV 2) aNil))) (gN 5))
    (sSeq (sFor (iR1 (aCons (eOp ixO (eLst (aCons (eC (.int 0)) (aCons (eC (.int 0)) (aCons (eC (.int 1)) (aCons (eC (.int 2)) (aCons (eC (.int 7)) aNil)))))) (eCall 2 L_draw (aCons (eV 0) (aCons (eC (.int 5)) aNil)))) aNil)) (gN 6) (sAsg (eOp oAdd (eV 5) (eCall 2 L_pick (aCons (eV 0) (aCons (eV 2) aNil)))) (gN 5)))
    (sSeq (sAsg (eOp oAdd (eLst (aCons (eV 5) aNil)) (eLc (iSq (eV 2)) (gN 8) tT (eOp oAdd (eOp oAdd (eV 8) (eC (.str "q"))) (eV 8)) [8])) (gN 7))
    (sExp (eBM isCel appO (eV 3) (aCons (eOp ixO (eLc (iSq (eV 7)) (gN 9) (tOf (eOp (inO true) (eV 9) (eV 3))) (eV 9) [9]) (eC (.int 0))) aNil)))))))
    (sRet (eFz (eV 3)))))
def L_words : List D → Sto → Out D := runM 10 m_L_words
def m_L_lean : SM := (sSeq (sPar 2 3 (aCons (eCB absO (aCons (eV 0) aNil)) (aCons (eV 1) aNil)))
    (sSeq (sWhile (fuelAt 3) (tOf (eOp oNe (eV 3) (eC (.int 0)))) (sPar 2 3 (aCons (eV 3) (aCons (eOp oMod (eCB intO (aCons (eV 2) aNil)) (eV 3)) aNil))))
    (sRet (eTup (aCons (eOp oDiv (eV 0) (eV 2)) (aCons (eOp oDiv (eV 1) (eV 2)) aNil))))))
def L_lean : List D → Sto → Out D := runM 4 m_L_lean
def m_L_plus : SM := (sRet (eCall 2 L_lean (aCons (eOp oAdd (eOp oMul (eOp ixO (eV 0) (eC (.int 0))) (eOp ixO (eV 1) (eC (.int 1)))) (eOp oMul (eOp ixO (eV 1) (eC (.int 0))) (eOp ixO (eV 0) (eC (.int 1))))) (aCons (eOp oMul (eOp ixO (eV 0) (eC (.int 1))) (eOp ixO (eV 1) (eC (.int 1)))) aNil))))
def L_plus : List D → Sto → Out D := runM 2 m_L_plus
def m_L_minus : SM := (sRet (eCall 2 L_lean (aCons (eOp oSub (eOp oMul (eOp ixO (eV 0) (eC (.int 0))) (eOp ixO (eV 1) (eC (.int 1)))) (eOp oMul (eOp ixO (eV 1) (eC (.int 0))) (eOp ixO (eV 0) (eC (.int 1))))) (aCons (eOp oMul (eOp ixO (eV 0) (eC (.int 1))) (eOp ixO (eV 1) (eC (.int 1)))) aNil))))
def L_minus : List D → Sto → Out D := runM 2 m_L_minus
def m_L_is_so : SM := (sSeq (sAsg (eOp oSub (eOp ixO (eV 0) (eC (.int 0))) (eOp oMul (eV 2) (eOp ixO (eV 0) (eC (.int 1))))) (gN 3))
    (sSeq (sIf (tOf (eOp (inO false) (eV 1) (eTup (aCons (eC (.str "upto")) (aCons (eC (.str "below")) aNil))))) (sRet (eOr (eOp oLt (eV 3) (eC (.int 0))) (eAnd (eOp oEq (eV 3) (eC (.int 0))) (eOp oEq (eV 1) (eC (.str "upto")))))) sNx)
    (sRet (eOr (eOp oGt (eV 3) (eC (.int 0))) (eAnd (eOp oEq (eV 3) (eC (.int 0))) (eOp oEq (eV 1) (eC (.str "from"))))))))
def L_is_so : List D → Sto → Out D := runM 4 m_L_is_so
def m_L_shown_times : SM := (sSeq (sAsg (eCel aNil) (gN 2))
    (sSeq (sFor (iSq (eV 1)) (gT 2 (gsCons (gN 3) (gsCons (gN 4) gsNil))) (sSeq (sAsg (eOp oAdd (eC (.int 1)) (eCall 2 L_draw (aCons (eV 0) (aCons (eC (.int 2)) aNil)))) (gN 5))
    (sSeq (sAsg (eTup (aCons (eOp oMul (eOp ixO (eV 4) (eC (.int 0))) (eV 5)) (aCons (eOp oMul (eOp ixO (eV 4) (eC (.int 1))) (eV 5)) aNil))) (gN 6))
    (sExp (eBM isCel appO (eV 2) (aCons (eCall 2 L_pick (aCons (eV 0) (aCons (eLst (aCons (eTup (aCons (eV 3) (aCons (eV 6) aNil))) (aCons (eLst (aCons (eV 3) (aCons (eCB listO (aCons (eV 6) aNil)) aNil))) (aCons (eTup (aCons (eV 3) (aCons (eCB listO (aCons (eV 6) aNil)) aNil))) aNil)))) aNil))) aNil))))))
    (sRet (eCall 2 L_pick (aCons (eV 0) (aCons (eLst (aCons (eFz (eV 2)) (aCons (eCB tupleO (aCons (eV 2) aNil)) aNil))) aNil))))))
def L_shown_times : List D → Sto → Out D := runM 7 m_L_shown_times
def m_L_gap : SM := (sRet (eCall 2 L_pick (aCons (eV 0) (aCons (eLst (aCons (eTup (aCons (eC (.int 0)) (aCons (eC (.int 1)) aNil))) (aCons (eTup (aCons (eC (.int 0)) (aCons (eC (.int 1)) aNil))) (aCons (eTup (aCons (eC (.int 1)) (aCons (eC (.int 2)) aNil))) (aCons (eTup (aCons (eC (.int 1)) (aCons (eC (.int 1)) aNil))) (aCons (eTup (aCons (eC (.int 1)) (aCons (eC (.int 1)) aNil))) (aCons (eTup (aCons (eC (.int 3)) (aCons (eC (.int 2)) aNil))) (aCons (eTup (aCons (eC (.int 2)) (aCons (eC (.int 1)) aNil))) (aCons (eTup (aCons (eC (.int 1)) (aCons (eC (.int 3)) aNil))) (aCons (eTup (aCons (eC (.int 3)) (aCons (eC (.int 1)) aNil))) (aCons (eTup (aCons (eC (.int 5)) (aCons (eC (.int 2)) aNil))) aNil))))))))))) aNil))))
def L_gap : List D → Sto → Out D := runM 1 m_L_gap
def m_L_plain : SM := (sSeq (sPar 3 4 (aCons (eCall 2 L_pick (aCons (eV 0) (aCons (eLst (aCons (eC (.str "since")) (aCons (eC (.str "since")) (aCons (eC (.str "soon")) aNil)))) aNil))) (aCons (eLst (aCons (eCall 2 L_pick (aCons (eV 0) (aCons (eV 1) aNil))) (aCons (eCall 2 L_pick (aCons (eV 0) (aCons (eV 1) aNil))) aNil))) aNil)))
    (sSeq (sIf (bAnd (tOf (eOp oEq (eOp ixO (eV 4) (eC (.int 0))) (eOp ixO (eV 4) (eC (.int 1))))) (tOf (eOp oGt (eCall 2 L_draw (aCons (eV 0) (aCons (eC (.int 4)) aNil))) (eC (.int 0))))) (sAsg (eSl (eOp oAdd (eCall 2 L_order (aCons (eV 0) (aCons (eV 1) aNil))) (eV 1)) pN (pI (eC (.int 2)))) (gN 4)) sNx)
    (sSeq (sAsg (eCall 2 L_pick (aCons (eV 0) (aCons (eIf (tOf (eOp oEq (eV 3) (eC (.str "since")))) (eLst (aCons (eC (.str "upto")) (aCons (eC (.str "below")) (aCons (eC (.str "from")) (aCons (eC (.str "above")) aNil))))) (eLst (aCons (eC (.str "upto")) (aCons (eC (.str "below")) aNil)))) aNil))) (gN 5))
    (sRet (eTup (aCons (eV 3) (aCons (eOp ixO (eV 4) (eC (.int 0))) (aCons (eOp ixO (eV 4) (eC (.int 1))) (aCons (eV 5) (aCons (eCall 2 L_draw (aCons (eV 0) (aCons (eOp oAdd (eV 2) (eC (.int 1))) aNil))) aNil))))))))))
def L_plain : List D → Sto → Out D := runM 6 m_L_plain
def m_L_rule (self : List D → Sto → Out D) : SM := (sSeq (sAsg (eCall 2 L_draw (aCons (eV 0) (aCons (eC (.int 6)) aNil))) (gN 5))
    (sSeq (sIf (bOr (bAnd (tOf (eOp oLt (eV 3) (eC (.int 2)))) (tOf (eOp oGt (eV 5) (eC (.int 3))))) (bOr (tOf (eOp oLt (eV 5) (eC (.int 3)))) (tOf (eOp oEq (eV 4) (eC (.int 0)))))) (sRet (eCall 3 L_plain (aCons (eV 0) (aCons (eV 1) (aCons (eV 2) aNil))))) sNx)
    (sSeq (sIf (tOf (eOp oEq (eV 5) (eC (.int 3)))) (sRet (eTup (aCons (eC (.str "not")) (aCons (eCall 5 self (aCons (eV 0) (aCons (eV 1) (aCons (eV 2) (aCons (eV 3) (aCons (eOp oSub (eV 4) (eC (.int 1))) aNil)))))) aNil)))) sNx)
    (sSeq (sAsg (eOp oAdd (eC (.int 1)) (eCall 2 L_draw (aCons (eV 0) (aCons (eOp oSub (eV 3) (eC (.int 1))) aNil)))) (gN 6))
    (sSeq (sAsg (eCall 5 self (aCons (eV 0) (aCons (eV 1) (aCons (eV 2) (aCons (eV 6) (aCons (eOp oSub (eV 4) (eC (.int 1))) aNil)))))) (gN 7))
    (sRet (eTup (aCons (eCall 2 L_pick (aCons (eV 0) (aCons (eLst (aCons (eC (.str "both")) (aCons (eC (.str "either")) aNil))) aNil))) (aCons (eV 7) (aCons (eCall 5 self (aCons (eV 0) (aCons (eV 1) (aCons (eV 2) (aCons (eOp oSub (eV 3) (eV 6)) (aCons (eOp oSub (eV 4) (eC (.int 1))) aNil)))))) aNil))))))))))
def L_rule : Nat → List D → Sto → Out D
  | 0 => fun _ _ => .bad
  | n + 1 => runM 8 (m_L_rule (L_rule n))
def m_L_shown_rule (self : List D → Sto → Out D) : SM := (sSeq (sAsg (eLc (iSq (eV 1)) (gN 3) tT (eIf (tOf (eIsa "tuple" (eV 3))) (eCall 2 self (aCons (eV 0) (aCons (eV 3) aNil))) (eV 3)) [3]) (gN 2))
    (sRet (eCall 2 L_pick (aCons (eV 0) (aCons (eLst (aCons (eV 2) (aCons (eCB tupleO (aCons (eV 2) aNil)) aNil))) aNil)))))
def L_shown_rule : Nat → List D → Sto → Out D
  | 0 => fun _ _ => .bad
  | n + 1 => runM 4 (m_L_shown_rule (L_shown_rule n))
def m_L_has_other : SM := (sSeq (sAsg (eV 0) (gT 5 (gsCons (gN 3) (gsCons (gN 4) (gsCons (gN 5) (gsCons (gN 6) (gsCons (gN 7) gsNil)))))))
    (sSeq (sFor (iEm (eV 1)) (gT 2 (gsCons (gN 8) (gsCons (gT 2 (gsCons (gN 9) (gsCons (gN 10) gsNil))) gsNil))) (sSeq (sIf (bAnd (tOf (eOp oEq (eV 9) (eV 5))) (bAnd (tOf (eOp oEq (eV 3) (eC (.str "since")))) (tOf (eOp oLt (eV 8) (eV 2))))) (sIf (tOf (eCall 3 L_is_so (aCons (eCall 2 L_minus (aCons (eOp ixO (eOp ixO (eV 1) (eV 2)) (eC (.int 1))) (aCons (eV 10) aNil))) (aCons (eV 6) (aCons (eV 7) aNil))))) (sRet (eC (.bl true))) sNx) sNx)
    (sIf (bAnd (tOf (eOp oEq (eV 9) (eV 5))) (bAnd (tOf (eOp oEq (eV 3) (eC (.str "soon")))) (tOf (eOp oGt (eV 8) (eV 2))))) (sIf (tOf (eCall 3 L_is_so (aCons (eCall 2 L_minus (aCons (eV 10) (aCons (eOp ixO (eOp ixO (eV 1) (eV 2)) (eC (.int 1))) aNil))) (aCons (eV 6) (aCons (eV 7) aNil))))) (sRet (eC (.bl true))) sNx) sNx)))
    (sRet (eC (.bl false)))))
def L_has_other : List D → Sto → Out D := runM 11 m_L_has_other
def m_L_broken : SM := (sSeq (sFor (iEm (eV 1)) (gT 2 (gsCons (gN 2) (gsCons (gT 2 (gsCons (gN 3) (gsCons (gN 4) gsNil))) gsNil))) (sIf (bAnd (tOf (eOp oEq (eV 3) (eOp ixO (eV 0) (eC (.int 1))))) (bNot (tOf (eCall 3 L_has_other (aCons (eV 0) (aCons (eV 1) (aCons (eV 2) aNil))))))) (sRet (eV 2)) sNx))
    (sRet (eC .non)))
def L_broken : List D → Sto → Out D := runM 5 m_L_broken
def m_L_keeps (self : List D → Sto → Out D) : SM := (sSeq (sIf (tOf (eOp (inO false) (eOp ixO (eV 0) (eC (.int 0))) (eTup (aCons (eC (.str "since")) (aCons (eC (.str "soon")) aNil))))) (sRet (eOp oIsN (eCall 2 L_broken (aCons (eV 0) (aCons (eV 1) aNil))) (eC .non))) sNx)
    (sSeq (sAsg (eLc (iSq (eSl (eV 0) (pI (eC (.int 1))) pN)) (gN 3) tT (eCall 2 self (aCons (eV 3) (aCons (eV 1) aNil))) [3]) (gN 2))
    (sSeq (sIf (tOf (eOp oEq (eOp ixO (eV 0) (eC (.int 0))) (eC (.str "not")))) (sRet (eNot (eOp ixO (eV 2) (eC (.int 0))))) sNx)
    (sRet (eIf (tOf (eOp oEq (eOp ixO (eV 0) (eC (.int 0))) (eC (.str "both")))) (eAnd (eOp ixO (eV 2) (eC (.int 0))) (eOp ixO (eV 2) (eC (.int 1)))) (eOr (eOp ixO (eV 2) (eC (.int 0))) (eOp ixO (eV 2) (eC (.int 1)))))))))
def L_keeps : Nat → List D → Sto → Out D
  | 0 => fun _ _ => .bad
  | n + 1 => runM 4 (m_L_keeps (L_keeps n))
def m_L_row : SM := (sSeq (sPar 2 3 (aCons (eCel aNil) (aCons (eTup (aCons (eC (.int 0)) (aCons (eC (.int 1)) aNil))) aNil)))
    (sSeq (sFor (iR1 (aCons (eCall 2 L_draw (aCons (eV 0) (aCons (eC (.int 9)) aNil))) aNil)) (gN 4) (sSeq (sAsg (eCall 2 L_plus (aCons (eV 3) (aCons (eCall 1 L_gap (aCons (eV 0) aNil)) aNil))) (gN 3))
    (sExp (eBM isCel appO (eV 2) (aCons (eTup (aCons (eCall 2 L_pick (aCons (eV 0) (aCons (eV 1) aNil))) (aCons (eV 3) aNil))) aNil)))))
    (sRet (eFz (eV 2)))))
def L_row : List D → Sto → Out D := runM 5 m_L_row
def m_L_bad_row : SM := (sSeq (sIf (tOf (eOp oEq (eCall 2 L_draw (aCons (eV 0) (aCons (eC (.int 4)) aNil))) (eC (.int 0)))) (sRet (eTup (aCons (eCall 2 L_pick (aCons (eV 0) (aCons (eLst (aCons (eC .non) (aCons (eC (.int 5)) (aCons (eC (.str "")) (aCons (eC .dic) (aCons (eC (.bl true)) (aCons (eC (.str "ab")) aNil))))))) aNil))) (aCons (eC (.int 0)) aNil)))) sNx)
    (sSeq (sPar 2 3 (aCons (eCall 2 L_draw (aCons (eV 0) (aCons (eOp oAdd (eCB lenO (aCons (eV 1) aNil)) (eC (.int 1))) aNil))) (aCons (eIf (tOf (eOp oNe (eV 1) (eLst aNil))) (eOp ixO (eOp ixO (eV 1) (eUn negO (eC (.int 1)))) (eC (.int 1))) (eTup (aCons (eC (.int 1)) (aCons (eC (.int 1)) aNil)))) aNil)))
    (sSeq (sAsg (eCel (aCons (eC .non) (aCons (eC (.int 5)) (aCons (eTup (aCons (eC (.str "a")) aNil)) (aCons (eTup (aCons (eC (.str "a")) (aCons (eV 3) (aCons (eV 3) aNil)))) (aCons (eTup (aCons (eC (.str "A")) (aCons (eV 3) aNil))) (aCons (eTup (aCons (eC (.int 5)) (aCons (eV 3) aNil))) (aCons (eTup (aCons (eC .non) (aCons (eV 3) aNil))) (aCons (eTup (aCons (eC (.str "a")) (aCons (eC (.int 3)) aNil))) (aCons (eTup (aCons (eC (.str "a")) (aCons (eTup (aCons (eC (.int 1)) (aCons (eC (.int 0)) aNil))) aNil))) aNil)))))))))) (gN 4))
    (sSeq (sAsg (eOp oAddC (eV 4) (eLst (aCons (eTup (aCons (eC (.str "a")) (aCons (eTup (aCons (eC (.int 1)) aNil)) aNil))) (aCons (eTup (aCons (eC (.str "a")) (aCons (eTup (aCons (eUn negO (eC (.int 1))) (aCons (eC (.int 3)) aNil))) aNil))) (aCons (eTup (aCons (eC (.str "a")) (aCons (eTup (aCons (eC (.bl true)) (aCons (eC (.int 1)) aNil))) aNil))) (aCons (eTup (aCons (eC (.str "a")) (aCons (eLst (aCons (eC (.int 1)) (aCons (eC (.str "1")) aNil))) aNil))) (aCons (eLst (aCons (eC (.str "ninesigns")) (aCons (eV 3) aNil))) (aCons (eTup (aCons (eC (.str "")) (aCons (eV 3) aNil))) aNil)))))))) (gN 4))
    (sSeq (sIf (bAnd (tOf (eOp oGt (eV 2) (eC (.int 0)))) (tOf (eOp oNe (eOp ixO (eOp ixO (eV 1) (eOp oSub (eV 2) (eC (.int 1)))) (eC (.int 1))) (eTup (aCons (eC (.int 0)) (aCons (eC (.int 1)) aNil)))))) (sExp (eBM isCel appO (eV 4) (aCons (eTup (aCons (eC (.str "a")) (aCons (eCall 2 L_lean (aCons (eOp ixO (eOp ixO (eOp ixO (eV 1) (eOp oSub (eV 2) (eC (.int 1)))) (eC (.int 1))) (eC (.int 0))) (aCons (eOp oAdd (eOp ixO (eOp ixO (eOp ixO (eV 1) (eOp oSub (eV 2) (eC (.int 1)))) (eC (.int 1))) (eC (.int 1))) (eC (.int 1))) aNil))) aNil))) aNil))) sNx)
    (sRet (eTup (aCons (eOp oAdd (eOp oAdd (eSl (eV 1) pN (pI (eV 2))) (eLst (aCons (eCall 2 L_pick (aCons (eV 0) (aCons (eFz (eV 4)) aNil))) aNil))) (eSl (eV 1) (pI (eV 2)) pN)) (aCons (eV 2) aNil)))))))))
def L_bad_row : List D → Sto → Out D := runM 5 m_L_bad_row
end R
end DL

set_option Elab.async false
set_option linter.all false
set_option maxRecDepth 100000
set_option maxHeartbeats 4000000
namespace DL
open PySem PySem.Spec PyProof.Rows L2
namespace R
def top (i : Nat) : Stmt := PySem.Challenge.pw_rowsintime_k63_whole_rules_kept.main.body.getD i (.Pass ⟨0, 0, 0, 0⟩)
/-- what the program's top gives -/
structure Fx (w : World) (K : PySem.W.Frag) (mg : Str → Option Value) (T : List (Addr × Str)) : Prop where
  z_abs : mg "abs" = none
  z_all : mg "all" = none
  z_any : mg "any" = none
  z_bool : mg "bool" = none
  z_enumerate : mg "enumerate" = none
  z_int : mg "int" = none
  z_isinstance : mg "isinstance" = none
  z_len : mg "len" = none
  z_list : mg "list" = none
  z_range : mg "range" = none
  z_str : mg "str" = none
  z_tuple : mg "tuple" = none
  g_LOWERS : ∃ u, mg "LOWERS" = some u ∧ KRep ⟨K, mg, T⟩ u (.tup [.str "from", .str "above"])
  g_PLAIN : ∃ u, mg "PLAIN" = some u ∧ KRep ⟨K, mg, T⟩ u (.tup [.str "since", .str "soon"])
  g_SIGNS : ∃ u, mg "SIGNS" = some u ∧ KRep ⟨K, mg, T⟩ u (.str "abcdefghijklmnopqrstuvwxyz")
  k_SIZES : KD ⟨K, mg, T⟩ w "SIZES" [("since", .int 5), ("soon", .int 5), ("not", .int 2), ("both", .int 3), ("either", .int 3)]
  g_UPPERS : ∃ u, mg "UPPERS" = some u ∧ KRep ⟨K, mg, T⟩ u (.tup [.str "below", .str "upto"])
  g_ZERO : ∃ u, mg "ZERO" = some u ∧ KRep ⟨K, mg, T⟩ u (.tup [.int 0, .int 1])
  e_BadRow : ∀ (base : Heap) (P : Program) (w : World), ∃ (C fI : Addr) (fd : FuncData), ErrC P w K mg base "BadRow" "index" C fI fd
  e_BadRule : ∀ (base : Heap) (P : Program) (w : World), ∃ (C fI : Addr) (fd : FuncData), ErrC P w K mg base "BadRule" "path" C fI fd
  e_NotPlain : ∀ (base : Heap) (P : Program) (w : World), ∃ (C fI : Addr) (fd : FuncData), ErrC P w K mg base "NotPlain" "rule" C fI fd
section
variable {P : Program} {w : World} {K : PySem.W.Frag} {mg : Str → Option Value} {base : Heap} {T : List (Addr × Str)} {f : Addr} {fd : FuncData}
abbrev s_is_integer : Stmt := top 2
theorem sc_is_integer : FnScope ["thing"] ["thing"] (defScope s_is_integer) := ⟨rfl, rfl, rfl, by decide +kernel, rfl, by decide +kernel, by decide +kernel⟩
theorem ok_is_integer (Z : Fx w K mg T) (F : Fun K "is_integer" "is_integer" s_is_integer f fd) (hf : mg "is_integer" = some (.ref f)) : Has P w base ⟨K, mg, T⟩ "is_integer" ["thing"] 1 is_integer :=
  ⟨f, fd, hf, F.kp, F.binds (fun _ _ _ _ _ _ us hl => match us, hl with | [_], _ => rfl), fn_ok F sc_is_integer fun cdv A outer s H E hr =>
    (dss_one (ds_ret (de_and (de_isa rfl rfl rfl Z.z_isinstance rfl Z.z_int (by decide +kernel) (de_v 0)) (de_one (de_not (de_isa rfl rfl rfl Z.z_isinstance rfl Z.z_bool (by decide +kernel) (de_v 0)))))))⟩
abbrev s_is_natural : Stmt := top 3
theorem sc_is_natural : FnScope ["thing"] ["thing"] (defScope s_is_natural) := ⟨rfl, rfl, rfl, by decide +kernel, rfl, by decide +kernel, by decide +kernel⟩
theorem ok_is_natural (Z : Fx w K mg T) (F : Fun K "is_natural" "is_natural" s_is_natural f fd) (hf : mg "is_natural" = some (.ref f)) (h_is_integer : Has P w base ⟨K, mg, T⟩ "is_integer" ["thing"] 1 is_integer) : Has P w base ⟨K, mg, T⟩ "is_natural" ["thing"] 2 is_natural :=
  ⟨f, fd, hf, F.kp, F.binds (fun _ _ _ _ _ _ us hl => match us, hl with | [_], _ => rfl), fn_ok F sc_is_natural fun cdv A outer s H E hr =>
    (dss_one (ds_ret (de_and (de_has h_is_integer rfl rfl rfl (hr.mono (by omega)) rfl (takes_of rfl rfl rfl rfl) (da_cons (de_v 0) da_nil)) (de_one (de_ge (de_v 0) de_int)))))⟩
abbrev s_is_list : Stmt := top 4
theorem sc_is_list : FnScope ["thing"] ["thing"] (defScope s_is_list) := ⟨rfl, rfl, rfl, by decide +kernel, rfl, by decide +kernel, by decide +kernel⟩
theorem ok_is_list (Z : Fx w K mg T) (F : Fun K "is_list" "is_list" s_is_list f fd) (hf : mg "is_list" = some (.ref f)) : Has P w base ⟨K, mg, T⟩ "is_list" ["thing"] 1 is_list :=
  ⟨f, fd, hf, F.kp, F.binds (fun _ _ _ _ _ _ us hl => match us, hl with | [_], _ => rfl), fn_ok F sc_is_list fun cdv A outer s H E hr =>
    (dss_one (ds_ret (de_isa2 rfl rfl rfl rfl Z.z_isinstance rfl Z.z_list (by decide +kernel) rfl Z.z_tuple (by decide +kernel) (de_v 0))))⟩
abbrev s_is_name : Stmt := top 5
theorem sc_is_name : FnScope ["thing", "sign"] ["thing"] (defScope s_is_name) := ⟨rfl, rfl, rfl, by decide +kernel, rfl, by decide +kernel, by decide +kernel⟩
theorem ok_is_name (Z : Fx w K mg T) (F : Fun K "is_name" "is_name" s_is_name f fd) (hf : mg "is_name" = some (.ref f)) : Has P w base ⟨K, mg, T⟩ "is_name" ["thing"] 1 is_name :=
  ⟨f, fd, hf, F.kp, F.binds (fun _ _ _ _ _ _ us hl => match us, hl with | [_], _ => rfl), fn_ok F sc_is_name fun cdv A outer s H E hr =>
    (dss_one (ds_ret (de_and (de_isa rfl rfl rfl Z.z_isinstance rfl Z.z_str (by decide +kernel) (de_v 0)) (de_and (de_lele de_int (de_len rfl rfl Z.z_len (da_cons (de_v 0) da_nil)) de_int) (de_one (de_all rfl rfl rfl Z.z_all (da_cons (de_lc [("sign", 1)] rfl sc_is_name.nd (di_seq rfl (de_v 0)) (by show BlkOk ["thing", "sign"] (defScope s_is_name) _ _; exact ⟨rfl, by decide +kernel, by decide +kernel, by decide +kernel, by decide +kernel⟩) (by decide) (fun _ _ _ _ _ => (dgv_name (i := 1) sc_is_name.nd rfl (by first | exact Or.inl rfl | exact Or.inr rfl))) (fun _ _ _ _ _ => dts_nil) (fun _ _ _ _ _ => (de_in rfl (de_v 1) (de_glob rfl Z.g_SIGNS.choose_spec.1 Z.g_SIGNS.choose_spec.2)))) da_nil)))))))⟩
abbrev s_is_pair : Stmt := top 6
theorem sc_is_pair : FnScope ["thing"] ["thing"] (defScope s_is_pair) := ⟨rfl, rfl, rfl, by decide +kernel, rfl, by decide +kernel, by decide +kernel⟩
theorem ok_is_pair (Z : Fx w K mg T) (F : Fun K "is_pair" "is_pair" s_is_pair f fd) (hf : mg "is_pair" = some (.ref f)) (h_is_list : Has P w base ⟨K, mg, T⟩ "is_list" ["thing"] 1 is_list) : Has P w base ⟨K, mg, T⟩ "is_pair" ["thing"] 2 is_pair :=
  ⟨f, fd, hf, F.kp, F.binds (fun _ _ _ _ _ _ us hl => match us, hl with | [_], _ => rfl), fn_ok F sc_is_pair fun cdv A outer s H E hr =>
    (dss_one (ds_ret (de_and (de_has h_is_list rfl rfl rfl (hr.mono (by omega)) rfl (takes_of rfl rfl rfl rfl) (da_cons (de_v 0) da_nil)) (de_one (de_eq rfl hr.units (de_len rfl rfl Z.z_len (da_cons (de_v 0) da_nil)) de_int)))))⟩
abbrev s_is_of : Stmt := top 7
theorem sc_is_of : FnScope ["thing", "words"] ["thing", "words"] (defScope s_is_of) := ⟨rfl, rfl, rfl, by decide +kernel, rfl, by decide +kernel, by decide +kernel⟩
theorem ok_is_of (Z : Fx w K mg T) (F : Fun K "is_of" "is_of" s_is_of f fd) (hf : mg "is_of" = some (.ref f)) : Has P w base ⟨K, mg, T⟩ "is_of" ["thing", "words"] 1 is_of :=
  ⟨f, fd, hf, F.kp, F.binds (fun _ _ _ _ _ _ us hl => match us, hl with | [_, _], _ => rfl), fn_ok F sc_is_of fun cdv A outer s H E hr =>
    (dss_one (ds_ret (de_and (de_isa rfl rfl rfl Z.z_isinstance rfl Z.z_str (by decide +kernel) (de_v 0)) (de_one (de_in rfl (de_v 0) (de_v 1))))))⟩
abbrev s_greatest_divisor : Stmt := top 10
theorem sc_greatest_divisor : FnScope ["one", "other"] ["one", "other"] (defScope s_greatest_divisor) := ⟨rfl, rfl, rfl, by decide +kernel, rfl, by decide +kernel, by decide +kernel⟩
theorem ok_greatest_divisor (Z : Fx w K mg T) (F : Fun K "greatest_divisor" "greatest_divisor" s_greatest_divisor f fd) (hf : mg "greatest_divisor" = some (.ref f)) : Has P w base ⟨K, mg, T⟩ "greatest_divisor" ["one", "other"] 1 greatest_divisor :=
  ⟨f, fd, hf, F.kp, F.binds (fun _ _ _ _ _ _ us hl => match us, hl with | [_, _], _ => rfl), fn_ok F sc_greatest_divisor fun cdv A outer s H E hr =>
    (dss_cons (ds_while (fuelAt 1) (passes_of rfl) (dt_ne rfl hr.units (de_v 1) de_int) (dss_one (ds_par (k := 0) (j := 1) rfl sc_greatest_divisor.nd rfl rfl (by decide) rfl rfl (da_cons (de_v 1) (da_cons (de_mod (de_v 0) (de_v 1)) da_nil)) rfl)))
    (dss_one (ds_ret (de_v 0))))⟩
abbrev s_lowest : Stmt := top 11
theorem sc_lowest : FnScope ["top", "bottom", "many"] ["top", "bottom"] (defScope s_lowest) := ⟨rfl, rfl, rfl, by decide +kernel, rfl, by decide +kernel, by decide +kernel⟩
theorem ok_lowest (Z : Fx w K mg T) (F : Fun K "lowest" "lowest" s_lowest f fd) (hf : mg "lowest" = some (.ref f)) (h_greatest_divisor : Has P w base ⟨K, mg, T⟩ "greatest_divisor" ["one", "other"] 1 greatest_divisor) : Has P w base ⟨K, mg, T⟩ "lowest" ["top", "bottom"] 2 lowest :=
  ⟨f, fd, hf, F.kp, F.binds (fun _ _ _ _ _ _ us hl => match us, hl with | [_, _], _ => rfl), fn_ok F sc_lowest fun cdv A outer s H E hr =>
    (dss_cons (ds_asg (de_has h_greatest_divisor rfl rfl rfl (hr.mono (by omega)) rfl (takes_of rfl rfl rfl rfl) (da_cons (de_abs rfl Z.z_abs (da_cons (de_v 0) da_nil)) (da_cons (de_v 1) da_nil))) (dg_name (i := 2) sc_lowest.nd rfl (by first | exact Or.inl rfl | exact Or.inr rfl)))
    (dss_one (ds_ret (de_tup (da_cons (de_div (de_v 0) (de_v 2)) (da_cons (de_div (de_v 1) (de_v 2)) da_nil))))))⟩
abbrev s_whole : Stmt := top 12
theorem sc_whole : FnScope ["number"] ["number"] (defScope s_whole) := ⟨rfl, rfl, rfl, by decide +kernel, rfl, by decide +kernel, by decide +kernel⟩
theorem ok_whole (Z : Fx w K mg T) (F : Fun K "whole" "whole" s_whole f fd) (hf : mg "whole" = some (.ref f)) : Has P w base ⟨K, mg, T⟩ "whole" ["number"] 1 whole :=
  ⟨f, fd, hf, F.kp, F.binds (fun _ _ _ _ _ _ us hl => match us, hl with | [_], _ => rfl), fn_ok F sc_whole fun cdv A outer s H E hr =>
    (dss_one (ds_ret (de_tup (da_cons (de_v 0) (da_cons de_int da_nil)))))⟩
abbrev s_is_frac : Stmt := top 13
theorem sc_is_frac : FnScope ["thing"] ["thing"] (defScope s_is_frac) := ⟨rfl, rfl, rfl, by decide +kernel, rfl, by decide +kernel, by decide +kernel⟩
theorem ok_is_frac (Z : Fx w K mg T) (F : Fun K "is_frac" "is_frac" s_is_frac f fd) (hf : mg "is_frac" = some (.ref f)) (h_is_pair : Has P w base ⟨K, mg, T⟩ "is_pair" ["thing"] 2 is_pair) (h_is_integer : Has P w base ⟨K, mg, T⟩ "is_integer" ["thing"] 1 is_integer) : Has P w base ⟨K, mg, T⟩ "is_frac" ["thing"] 3 is_frac :=
  ⟨f, fd, hf, F.kp, F.binds (fun _ _ _ _ _ _ us hl => match us, hl with | [_], _ => rfl), fn_ok F sc_is_frac fun cdv A outer s H E hr =>
    (dss_one (ds_ret (de_and (de_has h_is_pair rfl rfl rfl (hr.mono (by omega)) rfl (takes_of rfl rfl rfl rfl) (da_cons (de_v 0) da_nil)) (de_and (de_has h_is_integer rfl rfl rfl (hr.mono (by omega)) rfl (takes_of rfl rfl rfl rfl) (da_cons (de_item rfl (de_v 0) de_int) da_nil)) (de_and (de_has h_is_integer rfl rfl rfl (hr.mono (by omega)) rfl (takes_of rfl rfl rfl rfl) (da_cons (de_item rfl (de_v 0) de_int) da_nil)) (de_one (de_ge (de_item rfl (de_v 0) de_int) de_int)))))))⟩
abbrev s_is_time : Stmt := top 14
theorem sc_is_time : FnScope ["thing"] ["thing"] (defScope s_is_time) := ⟨rfl, rfl, rfl, by decide +kernel, rfl, by decide +kernel, by decide +kernel⟩
theorem ok_is_time (Z : Fx w K mg T) (F : Fun K "is_time" "is_time" s_is_time f fd) (hf : mg "is_time" = some (.ref f)) (h_is_frac : Has P w base ⟨K, mg, T⟩ "is_frac" ["thing"] 3 is_frac) : Has P w base ⟨K, mg, T⟩ "is_time" ["thing"] 4 is_time :=
  ⟨f, fd, hf, F.kp, F.binds (fun _ _ _ _ _ _ us hl => match us, hl with | [_], _ => rfl), fn_ok F sc_is_time fun cdv A outer s H E hr =>
    (dss_one (ds_ret (de_and (de_has h_is_frac rfl rfl rfl (hr.mono (by omega)) rfl (takes_of rfl rfl rfl rfl) (da_cons (de_v 0) da_nil)) (de_one (de_ge (de_item rfl (de_v 0) de_int) de_int)))))⟩
abbrev s_frac_of : Stmt := top 15
theorem sc_frac_of : FnScope ["thing"] ["thing"] (defScope s_frac_of) := ⟨rfl, rfl, rfl, by decide +kernel, rfl, by decide +kernel, by decide +kernel⟩
theorem ok_frac_of (Z : Fx w K mg T) (F : Fun K "frac_of" "frac_of" s_frac_of f fd) (hf : mg "frac_of" = some (.ref f)) (h_lowest : Has P w base ⟨K, mg, T⟩ "lowest" ["top", "bottom"] 2 lowest) : Has P w base ⟨K, mg, T⟩ "frac_of" ["thing"] 3 frac_of :=
  ⟨f, fd, hf, F.kp, F.binds (fun _ _ _ _ _ _ us hl => match us, hl with | [_], _ => rfl), fn_ok F sc_frac_of fun cdv A outer s H E hr =>
    (dss_one (ds_ret (de_has h_lowest rfl rfl rfl (hr.mono (by omega)) rfl (takes_of rfl rfl rfl rfl) (da_cons (de_item rfl (de_v 0) de_int) (da_cons (de_item rfl (de_v 0) de_int) da_nil)))))⟩
abbrev s_minus : Stmt := top 16
theorem sc_minus : FnScope ["one", "other"] ["one", "other"] (defScope s_minus) := ⟨rfl, rfl, rfl, by decide +kernel, rfl, by decide +kernel, by decide +kernel⟩
theorem ok_minus (Z : Fx w K mg T) (F : Fun K "minus" "minus" s_minus f fd) (hf : mg "minus" = some (.ref f)) (h_lowest : Has P w base ⟨K, mg, T⟩ "lowest" ["top", "bottom"] 2 lowest) : Has P w base ⟨K, mg, T⟩ "minus" ["one", "other"] 3 minus :=
  ⟨f, fd, hf, F.kp, F.binds (fun _ _ _ _ _ _ us hl => match us, hl with | [_, _], _ => rfl), fn_ok F sc_minus fun cdv A outer s H E hr =>
    (dss_one (ds_ret (de_has h_lowest rfl rfl rfl (hr.mono (by omega)) rfl (takes_of rfl rfl rfl rfl) (da_cons (de_sub (de_mul (de_item rfl (de_v 0) de_int) (de_item rfl (de_v 1) de_int)) (de_mul (de_item rfl (de_v 1) de_int) (de_item rfl (de_v 0) de_int))) (da_cons (de_mul (de_item rfl (de_v 0) de_int) (de_item rfl (de_v 1) de_int)) da_nil)))))⟩
abbrev s_is_less : Stmt := top 17
theorem sc_is_less : FnScope ["one", "other"] ["one", "other"] (defScope s_is_less) := ⟨rfl, rfl, rfl, by decide +kernel, rfl, by decide +kernel, by decide +kernel⟩
theorem ok_is_less (Z : Fx w K mg T) (F : Fun K "is_less" "is_less" s_is_less f fd) (hf : mg "is_less" = some (.ref f)) : Has P w base ⟨K, mg, T⟩ "is_less" ["one", "other"] 1 is_less :=
  ⟨f, fd, hf, F.kp, F.binds (fun _ _ _ _ _ _ us hl => match us, hl with | [_, _], _ => rfl), fn_ok F sc_is_less fun cdv A outer s H E hr =>
    (dss_one (ds_ret (de_lt (de_mul (de_item rfl (de_v 0) de_int) (de_item rfl (de_v 1) de_int)) (de_mul (de_item rfl (de_v 1) de_int) (de_item rfl (de_v 0) de_int)))))⟩
abbrev s_is_upto : Stmt := top 18
theorem sc_is_upto : FnScope ["one", "other"] ["one", "other"] (defScope s_is_upto) := ⟨rfl, rfl, rfl, by decide +kernel, rfl, by decide +kernel, by decide +kernel⟩
theorem ok_is_upto (Z : Fx w K mg T) (F : Fun K "is_upto" "is_upto" s_is_upto f fd) (hf : mg "is_upto" = some (.ref f)) : Has P w base ⟨K, mg, T⟩ "is_upto" ["one", "other"] 1 is_upto :=
  ⟨f, fd, hf, F.kp, F.binds (fun _ _ _ _ _ _ us hl => match us, hl with | [_, _], _ => rfl), fn_ok F sc_is_upto fun cdv A outer s H E hr =>
    (dss_one (ds_ret (de_le (de_mul (de_item rfl (de_v 0) de_int) (de_item rfl (de_v 1) de_int)) (de_mul (de_item rfl (de_v 1) de_int) (de_item rfl (de_v 0) de_int)))))⟩
abbrev s_rule_at : Stmt := top 29
theorem sc_rule_at : FnScope ["thing", "path", "parts", "words", "are_right", "index", "is_right", "part"] ["thing", "path"] (defScope s_rule_at) := ⟨rfl, rfl, rfl, by decide +kernel, rfl, by decide +kernel, by decide +kernel⟩
theorem ok_rule_at {k : Nat} {self : List D → Sto → Out D} (hk : 2 ≤ k) (Z : Fx w K mg T) (F : Fun K "rule_at" "rule_at" s_rule_at f fd) (hf : mg "rule_at" = some (.ref f)) (hself : Has P w base ⟨K, mg, T⟩ "rule_at" ["thing", "path"] k self) (h_is_list : Has P w base ⟨K, mg, T⟩ "is_list" ["thing"] 1 is_list) (h_is_natural : Has P w base ⟨K, mg, T⟩ "is_natural" ["thing"] 2 is_natural) (h_is_of : Has P w base ⟨K, mg, T⟩ "is_of" ["thing", "words"] 1 is_of) (h_is_name : Has P w base ⟨K, mg, T⟩ "is_name" ["thing"] 1 is_name) : Has P w base ⟨K, mg, T⟩ "rule_at" ["thing", "path"] (k + 1) (runM 8 (m_rule_at self)) :=
  ⟨f, fd, hf, F.kp, F.binds (fun _ _ _ _ _ _ us hl => match us, hl with | [_, _], _ => rfl), fn_ok F sc_rule_at fun cdv A outer s H E hr =>
    (dss_cons (ds_if (dt_w (dw_or (dt_not (dt_val (de_has h_is_list rfl rfl rfl (hr.mono (by omega)) rfl (takes_of rfl rfl rfl rfl) (da_cons (de_v 0) da_nil)))) (dw_or (dt_eq rfl hr.units (de_len rfl rfl Z.z_len (da_cons (de_v 0) da_nil)) de_int) (dw_or (dt_not (dt_val (de_isa rfl rfl rfl Z.z_isinstance rfl Z.z_str (by decide +kernel) (de_item rfl (de_v 0) de_int)))) (dw_or1 (dt_knin rfl rfl Z.k_SIZES rfl (de_item rfl (de_v 0) de_int))))))) (dss_one (ds_raise (Z.e_BadRule base P w).choose_spec.choose_spec.choose_spec rfl rfl (takes_of rfl rfl rfl rfl) (hr.mono (by omega)) rfl (de_v 1))) dss_nil)
    (dss_cons (ds_if (dt_ne rfl hr.units (de_len rfl rfl Z.z_len (da_cons (de_v 0) da_nil)) (de_kat rfl rfl Z.k_SIZES rfl (de_item rfl (de_v 0) de_int))) (dss_one (ds_raise (Z.e_BadRule base P w).choose_spec.choose_spec.choose_spec rfl rfl (takes_of rfl rfl rfl rfl) (hr.mono (by omega)) rfl (de_v 1))) dss_nil)
    (dss_cons (ds_if (dt_nin rfl (de_item rfl (de_v 0) de_int) (de_glob rfl Z.g_PLAIN.choose_spec.1 Z.g_PLAIN.choose_spec.2)) (dss_cons (ds_setLc (i := 2) [("index", 5), ("part", 7)] rfl sc_rule_at.nd rfl rfl rfl (di_enum rfl rfl Z.z_enumerate (de_slice rfl (de_v 0) (do_some de_int) do_none)) (by show BlkOk ["thing", "path", "parts", "words", "are_right", "index", "is_right", "part"] (defScope s_rule_at) _ _; exact ⟨rfl, by decide +kernel, by decide +kernel, by decide +kernel, by decide +kernel⟩) (by decide) (fun _ _ _ _ _ => (dgv_tup rfl rfl (dgs_cons (dgv_name (i := 5) sc_rule_at.nd rfl (by first | exact Or.inl rfl | exact Or.inr rfl)) (dgs_cons (dgv_name (i := 7) sc_rule_at.nd rfl (by first | exact Or.inl rfl | exact Or.inr rfl)) dgs_nil)))) (fun _ _ _ _ _ => dts_nil) (fun _ _ _ _ _ => (de_has hself rfl rfl rfl (hr.mono (by omega)) rfl takes0 (da_cons (de_v 7) (da_cons (de_tup (da_star rfl (de_v 1) (da_cons (de_add rfl (de_v 5) de_int) da_nil))) da_nil)))))
    (dss_one (ds_ret (de_tup (da_cons (de_item rfl (de_v 0) de_int) (da_star rfl (de_v 2) da_nil)))))) dss_nil)
    (dss_cons (ds_asg (de_if (dt_eq rfl hr.units (de_item rfl (de_v 0) de_int) de_str) (de_glob rfl Z.g_UPPERS.choose_spec.1 Z.g_UPPERS.choose_spec.2) (de_add rfl (de_glob rfl Z.g_UPPERS.choose_spec.1 Z.g_UPPERS.choose_spec.2) (de_glob rfl Z.g_LOWERS.choose_spec.1 Z.g_LOWERS.choose_spec.2))) (dg_name (i := 3) sc_rule_at.nd rfl (by first | exact Or.inl rfl | exact Or.inr rfl)))
    (dss_cons (ds_asg (de_lst (da_cons (de_has h_is_name rfl rfl rfl (hr.mono (by omega)) rfl (takes_of rfl rfl rfl rfl) (da_cons (de_item rfl (de_v 0) de_int) da_nil)) (da_cons (de_has h_is_name rfl rfl rfl (hr.mono (by omega)) rfl (takes_of rfl rfl rfl rfl) (da_cons (de_item rfl (de_v 0) de_int) da_nil)) (da_cons (de_has h_is_of rfl rfl rfl (hr.mono (by omega)) rfl (takes_of rfl rfl rfl rfl) (da_cons (de_item rfl (de_v 0) de_int) (da_cons (de_v 3) da_nil))) (da_cons (de_has h_is_natural rfl rfl rfl (hr.mono (by omega)) rfl (takes_of rfl rfl rfl rfl) (da_cons (de_item rfl (de_v 0) de_int) da_nil)) da_nil))))) (dg_name (i := 4) sc_rule_at.nd rfl (by first | exact Or.inl rfl | exact Or.inr rfl)))
    (dss_cons (ds_for (passes_of rfl) rfl (di_enum rfl rfl Z.z_enumerate (de_v 4)) (dg_tup rfl rfl (dgs_cons (dgv_name (i := 5) sc_rule_at.nd rfl (by first | exact Or.inl rfl | exact Or.inr rfl)) (dgs_cons (dgv_name (i := 6) sc_rule_at.nd rfl (by first | exact Or.inl rfl | exact Or.inr rfl)) dgs_nil))) (dss_one (ds_if (dt_not (dt_val (de_v 6))) (dss_one (ds_raise (Z.e_BadRule base P w).choose_spec.choose_spec.choose_spec rfl rfl (takes_of rfl rfl rfl rfl) (hr.mono (by omega)) rfl (de_tup (da_star rfl (de_v 1) (da_cons (de_add rfl (de_v 5) de_int) da_nil))))) dss_nil)))
    (dss_one (ds_ret (de_tuple rfl rfl Z.z_tuple (da_cons (de_v 0) da_nil))))))))))⟩
theorem rec_rule_at (Z : Fx w K mg T) (F : Fun K "rule_at" "rule_at" s_rule_at f fd) (hf : mg "rule_at" = some (.ref f)) (h_is_list : Has P w base ⟨K, mg, T⟩ "is_list" ["thing"] 1 is_list) (h_is_natural : Has P w base ⟨K, mg, T⟩ "is_natural" ["thing"] 2 is_natural) (h_is_of : Has P w base ⟨K, mg, T⟩ "is_of" ["thing", "words"] 1 is_of) (h_is_name : Has P w base ⟨K, mg, T⟩ "is_name" ["thing"] 1 is_name) : ∀ n : Nat, Has P w base ⟨K, mg, T⟩ "rule_at" ["thing", "path"] (2 + n) (rule_at n)
  | 0 => Has.none hf F.kp (F.binds (fun _ _ _ _ _ _ us hl => match us, hl with | [_, _], _ => rfl))
  | n + 1 => ok_rule_at (Nat.le_add_right _ _) Z F hf (rec_rule_at Z F hf h_is_list h_is_natural h_is_of h_is_name n) h_is_list h_is_natural h_is_of h_is_name
abbrev s_checked_rule : Stmt := top 30
theorem sc_checked_rule : FnScope ["thing"] ["thing"] (defScope s_checked_rule) := ⟨rfl, rfl, rfl, by decide +kernel, rfl, by decide +kernel, by decide +kernel⟩
theorem ok_checked_rule (Z : Fx w K mg T) (F : Fun K "checked_rule" "checked_rule" s_checked_rule f fd) (hf : mg "checked_rule" = some (.ref f)) (h_rule_at : Has P w base ⟨K, mg, T⟩ "rule_at" ["thing", "path"] 10 (rule_at 8)) : Has P w base ⟨K, mg, T⟩ "checked_rule" ["thing"] 11 checked_rule :=
  ⟨f, fd, hf, F.kp, F.binds (fun _ _ _ _ _ _ us hl => match us, hl with | [_], _ => rfl), fn_ok F sc_checked_rule fun cdv A outer s H E hr =>
    (dss_one (ds_ret (de_has h_rule_at rfl rfl rfl (hr.mono (by omega)) rfl (takes_of rfl rfl rfl rfl) (da_cons (de_v 0) (da_cons (de_tup da_nil) da_nil)))))⟩
abbrev s_checked_timed : Stmt := top 31
theorem sc_checked_timed : FnScope ["row", "found", "last", "index", "pair"] ["row"] (defScope s_checked_timed) := ⟨rfl, rfl, rfl, by decide +kernel, rfl, by decide +kernel, by decide +kernel⟩
theorem ok_checked_timed (Z : Fx w K mg T) (F : Fun K "checked_timed" "checked_timed" s_checked_timed f fd) (hf : mg "checked_timed" = some (.ref f)) (h_is_list : Has P w base ⟨K, mg, T⟩ "is_list" ["thing"] 1 is_list) (h_is_pair : Has P w base ⟨K, mg, T⟩ "is_pair" ["thing"] 2 is_pair) (h_is_name : Has P w base ⟨K, mg, T⟩ "is_name" ["thing"] 1 is_name) (h_is_time : Has P w base ⟨K, mg, T⟩ "is_time" ["thing"] 4 is_time) (h_frac_of : Has P w base ⟨K, mg, T⟩ "frac_of" ["thing"] 3 frac_of) (h_is_less : Has P w base ⟨K, mg, T⟩ "is_less" ["one", "other"] 1 is_less) : Has P w base ⟨K, mg, T⟩ "checked_timed" ["row"] 5 checked_timed :=
  ⟨f, fd, hf, F.kp, F.binds (fun _ _ _ _ _ _ us hl => match us, hl with | [_], _ => rfl), fn_ok F sc_checked_timed fun cdv A outer s H E hr =>
    (dss_cons (ds_if (dt_not (dt_val (de_has h_is_list rfl rfl rfl (hr.mono (by omega)) rfl (takes_of rfl rfl rfl rfl) (da_cons (de_v 0) da_nil)))) (dss_one (ds_raise (Z.e_BadRow base P w).choose_spec.choose_spec.choose_spec rfl rfl (takes_of rfl rfl rfl rfl) (hr.mono (by omega)) rfl de_int)) dss_nil)
    (dss_cons (ds_par (k := 1) (j := 2) rfl sc_checked_timed.nd rfl rfl (by decide) rfl rfl (da_cons (de_cel da_nil) (da_cons (de_glob rfl Z.g_ZERO.choose_spec.1 Z.g_ZERO.choose_spec.2) da_nil)) rfl)
    (dss_cons (ds_for (passes_of rfl) rfl (di_enum rfl rfl Z.z_enumerate (de_v 0)) (dg_tup rfl rfl (dgs_cons (dgv_name (i := 3) sc_checked_timed.nd rfl (by first | exact Or.inl rfl | exact Or.inr rfl)) (dgs_cons (dgv_name (i := 4) sc_checked_timed.nd rfl (by first | exact Or.inl rfl | exact Or.inr rfl)) dgs_nil))) (dss_cons (ds_if (dt_w (dw_or (dt_not (dt_val (de_has h_is_pair rfl rfl rfl (hr.mono (by omega)) rfl (takes_of rfl rfl rfl rfl) (da_cons (de_v 4) da_nil)))) (dw_or (dt_not (dt_val (de_has h_is_name rfl rfl rfl (hr.mono (by omega)) rfl (takes_of rfl rfl rfl rfl) (da_cons (de_item rfl (de_v 4) de_int) da_nil)))) (dw_or (dt_not (dt_val (de_has h_is_time rfl rfl rfl (hr.mono (by omega)) rfl (takes_of rfl rfl rfl rfl) (da_cons (de_item rfl (de_v 4) de_int) da_nil)))) (dw_or1 (dt_val (de_has h_is_less rfl rfl rfl (hr.mono (by omega)) rfl (takes_of rfl rfl rfl rfl) (da_cons (de_has h_frac_of rfl rfl rfl (hr.mono (by omega)) rfl (takes_of rfl rfl rfl rfl) (da_cons (de_item rfl (de_v 4) de_int) da_nil)) (da_cons (de_v 2) da_nil))))))))) (dss_one (ds_raise (Z.e_BadRow base P w).choose_spec.choose_spec.choose_spec rfl rfl (takes_of rfl rfl rfl rfl) (hr.mono (by omega)) rfl (de_v 3))) dss_nil)
    (dss_cons (ds_asg (de_has h_frac_of rfl rfl rfl (hr.mono (by omega)) rfl (takes_of rfl rfl rfl rfl) (da_cons (de_item rfl (de_v 4) de_int) da_nil)) (dg_name (i := 2) sc_checked_timed.nd rfl (by first | exact Or.inl rfl | exact Or.inr rfl)))
    (dss_one (ds_exp (de_append rfl (de_v 1) (da_cons (de_tup (da_cons (de_item rfl (de_v 4) de_int) (da_cons (de_v 2) da_nil))) da_nil)))))))
    (dss_one (ds_ret (de_fz (de_v 1)))))))⟩
abbrev s_is_so_long : Stmt := top 32
theorem sc_is_so_long : FnScope ["length", "word", "number"] ["length", "word", "number"] (defScope s_is_so_long) := ⟨rfl, rfl, rfl, by decide +kernel, rfl, by decide +kernel, by decide +kernel⟩
theorem ok_is_so_long (Z : Fx w K mg T) (F : Fun K "is_so_long" "is_so_long" s_is_so_long f fd) (hf : mg "is_so_long" = some (.ref f)) (h_whole : Has P w base ⟨K, mg, T⟩ "whole" ["number"] 1 whole) (h_is_upto : Has P w base ⟨K, mg, T⟩ "is_upto" ["one", "other"] 1 is_upto) (h_is_less : Has P w base ⟨K, mg, T⟩ "is_less" ["one", "other"] 1 is_less) : Has P w base ⟨K, mg, T⟩ "is_so_long" ["length", "word", "number"] 2 is_so_long :=
  ⟨f, fd, hf, F.kp, F.binds (fun _ _ _ _ _ _ us hl => match us, hl with | [_, _, _], _ => rfl), fn_ok F sc_is_so_long fun cdv A outer s H E hr =>
    (dss_cons (ds_if (dt_in rfl (de_v 1) (de_glob rfl Z.g_UPPERS.choose_spec.1 Z.g_UPPERS.choose_spec.2)) (dss_one (ds_ret (de_if (dt_eq rfl hr.units (de_v 1) de_str) (de_has h_is_upto rfl rfl rfl (hr.mono (by omega)) rfl (takes_of rfl rfl rfl rfl) (da_cons (de_v 0) (da_cons (de_has h_whole rfl rfl rfl (hr.mono (by omega)) rfl (takes_of rfl rfl rfl rfl) (da_cons (de_v 2) da_nil)) da_nil))) (de_has h_is_less rfl rfl rfl (hr.mono (by omega)) rfl (takes_of rfl rfl rfl rfl) (da_cons (de_v 0) (da_cons (de_has h_whole rfl rfl rfl (hr.mono (by omega)) rfl (takes_of rfl rfl rfl rfl) (da_cons (de_v 2) da_nil)) da_nil)))))) dss_nil)
    (dss_one (ds_ret (de_if (dt_eq rfl hr.units (de_v 1) de_str) (de_has h_is_upto rfl rfl rfl (hr.mono (by omega)) rfl (takes_of rfl rfl rfl rfl) (da_cons (de_has h_whole rfl rfl rfl (hr.mono (by omega)) rfl (takes_of rfl rfl rfl rfl) (da_cons (de_v 2) da_nil)) (da_cons (de_v 0) da_nil))) (de_has h_is_less rfl rfl rfl (hr.mono (by omega)) rfl (takes_of rfl rfl rfl rfl) (da_cons (de_has h_whole rfl rfl rfl (hr.mono (by omega)) rfl (takes_of rfl rfl rfl rfl) (da_cons (de_v 2) da_nil)) (da_cons (de_v 0) da_nil)))))))⟩
abbrev s_has_other : Stmt := top 33
theorem sc_has_other : FnScope ["rule", "row", "index", "kind", "asked", "wanted", "word", "number", "moment", "place_of", "sign", "time"] ["rule", "row", "index"] (defScope s_has_other) := ⟨rfl, rfl, rfl, by decide +kernel, rfl, by decide +kernel, by decide +kernel⟩
theorem ok_has_other (Z : Fx w K mg T) (F : Fun K "has_other" "has_other" s_has_other f fd) (hf : mg "has_other" = some (.ref f)) (h_minus : Has P w base ⟨K, mg, T⟩ "minus" ["one", "other"] 3 minus) (h_is_so_long : Has P w base ⟨K, mg, T⟩ "is_so_long" ["length", "word", "number"] 2 is_so_long) : Has P w base ⟨K, mg, T⟩ "has_other" ["rule", "row", "index"] 4 has_other :=
  ⟨f, fd, hf, F.kp, F.binds (fun _ _ _ _ _ _ us hl => match us, hl with | [_, _, _], _ => rfl), fn_ok F sc_has_other fun cdv A outer s H E hr =>
    (dss_cons (ds_asg (de_v 0) (dg_tup rfl rfl (dgs_cons (dgv_name (i := 3) sc_has_other.nd rfl (by first | exact Or.inl rfl | exact Or.inr rfl)) (dgs_cons (dgv_name (i := 4) sc_has_other.nd rfl (by first | exact Or.inl rfl | exact Or.inr rfl)) (dgs_cons (dgv_name (i := 5) sc_has_other.nd rfl (by first | exact Or.inl rfl | exact Or.inr rfl)) (dgs_cons (dgv_name (i := 6) sc_has_other.nd rfl (by first | exact Or.inl rfl | exact Or.inr rfl)) (dgs_cons (dgv_name (i := 7) sc_has_other.nd rfl (by first | exact Or.inl rfl | exact Or.inr rfl)) dgs_nil)))))))
    (dss_cons (ds_asg (de_item rfl (de_item rfl (de_v 1) (de_v 2)) de_int) (dg_name (i := 8) sc_has_other.nd rfl (by first | exact Or.inl rfl | exact Or.inr rfl)))
    (dss_cons (ds_for (passes_of rfl) rfl (di_enum rfl rfl Z.z_enumerate (de_v 1)) (dg_tup rfl rfl (dgs_cons (dgv_name (i := 9) sc_has_other.nd rfl (by first | exact Or.inl rfl | exact Or.inr rfl)) (dgs_cons (dgv_tup rfl rfl (dgs_cons (dgv_name (i := 10) sc_has_other.nd rfl (by first | exact Or.inl rfl | exact Or.inr rfl)) (dgs_cons (dgv_name (i := 11) sc_has_other.nd rfl (by first | exact Or.inl rfl | exact Or.inr rfl)) dgs_nil))) dgs_nil))) (dss_cons (ds_if (dt_w (dw_and (dt_eq rfl hr.units (de_v 10) (de_v 5)) (dw_and (dt_eq rfl hr.units (de_v 3) de_str) (dw_and (dt_lt (de_v 9) (de_v 2)) (dw_and1 (dt_val (de_has h_is_so_long rfl rfl rfl (hr.mono (by omega)) rfl (takes_of rfl rfl rfl rfl) (da_cons (de_has h_minus rfl rfl rfl (hr.mono (by omega)) rfl (takes_of rfl rfl rfl rfl) (da_cons (de_v 8) (da_cons (de_v 11) da_nil))) (da_cons (de_v 6) (da_cons (de_v 7) da_nil)))))))))) (dss_one (ds_ret de_bl)) dss_nil)
    (dss_one (ds_if (dt_w (dw_and (dt_eq rfl hr.units (de_v 10) (de_v 5)) (dw_and (dt_eq rfl hr.units (de_v 3) de_str) (dw_and (dt_gt (de_v 9) (de_v 2)) (dw_and1 (dt_val (de_has h_is_so_long rfl rfl rfl (hr.mono (by omega)) rfl (takes_of rfl rfl rfl rfl) (da_cons (de_has h_minus rfl rfl rfl (hr.mono (by omega)) rfl (takes_of rfl rfl rfl rfl) (da_cons (de_v 11) (da_cons (de_v 8) da_nil))) (da_cons (de_v 6) (da_cons (de_v 7) da_nil)))))))))) (dss_one (ds_ret de_bl)) dss_nil))))
    (dss_one (ds_ret de_bl)))))⟩
abbrev s_broken_at : Stmt := top 34
theorem sc_broken_at : FnScope ["rule", "row", "index", "sign", "time"] ["rule", "row"] (defScope s_broken_at) := ⟨rfl, rfl, rfl, by decide +kernel, rfl, by decide +kernel, by decide +kernel⟩
theorem ok_broken_at (Z : Fx w K mg T) (F : Fun K "broken_at" "broken_at" s_broken_at f fd) (hf : mg "broken_at" = some (.ref f)) (h_has_other : Has P w base ⟨K, mg, T⟩ "has_other" ["rule", "row", "index"] 4 has_other) : Has P w base ⟨K, mg, T⟩ "broken_at" ["rule", "row"] 5 broken_at :=
  ⟨f, fd, hf, F.kp, F.binds (fun _ _ _ _ _ _ us hl => match us, hl with | [_, _], _ => rfl), fn_ok F sc_broken_at fun cdv A outer s H E hr =>
    (dss_cons (ds_for (passes_of rfl) rfl (di_enum rfl rfl Z.z_enumerate (de_v 1)) (dg_tup rfl rfl (dgs_cons (dgv_name (i := 2) sc_broken_at.nd rfl (by first | exact Or.inl rfl | exact Or.inr rfl)) (dgs_cons (dgv_tup rfl rfl (dgs_cons (dgv_name (i := 3) sc_broken_at.nd rfl (by first | exact Or.inl rfl | exact Or.inr rfl)) (dgs_cons (dgv_name (i := 4) sc_broken_at.nd rfl (by first | exact Or.inl rfl | exact Or.inr rfl)) dgs_nil))) dgs_nil))) (dss_one (ds_if (dt_w (dw_and (dt_eq rfl hr.units (de_v 3) (de_item rfl (de_v 0) de_int)) (dw_and1 (dt_not (dt_val (de_has h_has_other rfl rfl rfl (hr.mono (by omega)) rfl (takes_of rfl rfl rfl rfl) (da_cons (de_v 0) (da_cons (de_v 1) (da_cons (de_v 2) da_nil))))))))) (dss_one (ds_ret (de_v 2))) dss_nil)))
    (dss_one (ds_ret de_non)))⟩
abbrev s_is_kept : Stmt := top 35
theorem sc_is_kept : FnScope ["rule", "row", "kept", "part"] ["rule", "row"] (defScope s_is_kept) := ⟨rfl, rfl, rfl, by decide +kernel, rfl, by decide +kernel, by decide +kernel⟩
theorem ok_is_kept {k : Nat} {self : List D → Sto → Out D} (hk : 5 ≤ k) (Z : Fx w K mg T) (F : Fun K "is_kept" "is_kept" s_is_kept f fd) (hf : mg "is_kept" = some (.ref f)) (hself : Has P w base ⟨K, mg, T⟩ "is_kept" ["rule", "row"] k self) (h_broken_at : Has P w base ⟨K, mg, T⟩ "broken_at" ["rule", "row"] 5 broken_at) : Has P w base ⟨K, mg, T⟩ "is_kept" ["rule", "row"] (k + 1) (runM 4 (m_is_kept self)) :=
  ⟨f, fd, hf, F.kp, F.binds (fun _ _ _ _ _ _ us hl => match us, hl with | [_, _], _ => rfl), fn_ok F sc_is_kept fun cdv A outer s H E hr =>
    (dss_cons (ds_if (dt_in rfl (de_item rfl (de_v 0) de_int) (de_glob rfl Z.g_PLAIN.choose_spec.1 Z.g_PLAIN.choose_spec.2)) (dss_one (ds_ret (de_isN (de_has h_broken_at rfl rfl rfl (hr.mono (by omega)) rfl (takes_of rfl rfl rfl rfl) (da_cons (de_v 0) (da_cons (de_v 1) da_nil))) de_non))) dss_nil)
    (dss_cons (ds_setLc (i := 2) [("part", 3)] rfl sc_is_kept.nd rfl rfl rfl (di_seq rfl (de_slice rfl (de_v 0) (do_some de_int) do_none)) (by show BlkOk ["rule", "row", "kept", "part"] (defScope s_is_kept) _ _; exact ⟨rfl, by decide +kernel, by decide +kernel, by decide +kernel, by decide +kernel⟩) (by decide) (fun _ _ _ _ _ => (dgv_name (i := 3) sc_is_kept.nd rfl (by first | exact Or.inl rfl | exact Or.inr rfl))) (fun _ _ _ _ _ => dts_nil) (fun _ _ _ _ _ => (de_has hself rfl rfl rfl (hr.mono (by omega)) rfl takes0 (da_cons (de_v 3) (da_cons (de_v 1) da_nil)))))
    (dss_cons (ds_if (dt_eq rfl hr.units (de_item rfl (de_v 0) de_int) de_str) (dss_one (ds_ret (de_not (de_item rfl (de_v 2) de_int)))) dss_nil)
    (dss_one (ds_ret (de_if (dt_eq rfl hr.units (de_item rfl (de_v 0) de_int) de_str) (de_all rfl rfl rfl Z.z_all (da_cons (de_v 2) da_nil)) (de_any rfl rfl rfl Z.z_any (da_cons (de_v 2) da_nil))))))))⟩
theorem rec_is_kept (Z : Fx w K mg T) (F : Fun K "is_kept" "is_kept" s_is_kept f fd) (hf : mg "is_kept" = some (.ref f)) (h_broken_at : Has P w base ⟨K, mg, T⟩ "broken_at" ["rule", "row"] 5 broken_at) : ∀ n : Nat, Has P w base ⟨K, mg, T⟩ "is_kept" ["rule", "row"] (5 + n) (is_kept n)
  | 0 => Has.none hf F.kp (F.binds (fun _ _ _ _ _ _ us hl => match us, hl with | [_, _], _ => rfl))
  | n + 1 => ok_is_kept (Nat.le_add_right _ _) Z F hf (rec_is_kept Z F hf h_broken_at n) h_broken_at
abbrev s_keeps : Stmt := top 36
theorem sc_keeps : FnScope ["rule", "row", "right_rule"] ["rule", "row"] (defScope s_keeps) := ⟨rfl, rfl, rfl, by decide +kernel, rfl, by decide +kernel, by decide +kernel⟩
theorem ok_keeps (Z : Fx w K mg T) (F : Fun K "keeps" "keeps" s_keeps f fd) (hf : mg "keeps" = some (.ref f)) (h_checked_rule : Has P w base ⟨K, mg, T⟩ "checked_rule" ["thing"] 11 checked_rule) (h_checked_timed : Has P w base ⟨K, mg, T⟩ "checked_timed" ["row"] 5 checked_timed) (h_is_kept : Has P w base ⟨K, mg, T⟩ "is_kept" ["rule", "row"] 13 (is_kept 8)) : Has P w base ⟨K, mg, T⟩ "keeps" ["rule", "row"] 14 keeps :=
  ⟨f, fd, hf, F.kp, F.binds (fun _ _ _ _ _ _ us hl => match us, hl with | [_, _], _ => rfl), fn_ok F sc_keeps fun cdv A outer s H E hr =>
    (dss_cons (ds_asg (de_has h_checked_rule rfl rfl rfl (hr.mono (by omega)) rfl (takes_of rfl rfl rfl rfl) (da_cons (de_v 0) da_nil)) (dg_name (i := 2) sc_keeps.nd rfl (by first | exact Or.inl rfl | exact Or.inr rfl)))
    (dss_one (ds_ret (de_has h_is_kept rfl rfl rfl (hr.mono (by omega)) rfl (takes_of rfl rfl rfl rfl) (da_cons (de_v 2) (da_cons (de_has h_checked_timed rfl rfl rfl (hr.mono (by omega)) rfl (takes_of rfl rfl rfl rfl) (da_cons (de_v 1) da_nil)) da_nil))))))⟩
abbrev s_check_plain : Stmt := top 37
theorem sc_check_plain : FnScope ["rule", "right_rule"] ["rule"] (defScope s_check_plain) := ⟨rfl, rfl, rfl, by decide +kernel, rfl, by decide +kernel, by decide +kernel⟩
theorem ok_check_plain (Z : Fx w K mg T) (F : Fun K "check_plain" "check_plain" s_check_plain f fd) (hf : mg "check_plain" = some (.ref f)) (h_checked_rule : Has P w base ⟨K, mg, T⟩ "checked_rule" ["thing"] 11 checked_rule) : Has P w base ⟨K, mg, T⟩ "check_plain" ["rule"] 12 check_plain :=
  ⟨f, fd, hf, F.kp, F.binds (fun _ _ _ _ _ _ us hl => match us, hl with | [_], _ => rfl), fn_ok F sc_check_plain fun cdv A outer s H E hr =>
    (dss_cons (ds_asg (de_has h_checked_rule rfl rfl rfl (hr.mono (by omega)) rfl (takes_of rfl rfl rfl rfl) (da_cons (de_v 0) da_nil)) (dg_name (i := 1) sc_check_plain.nd rfl (by first | exact Or.inl rfl | exact Or.inr rfl)))
    (dss_cons (ds_if (dt_nin rfl (de_item rfl (de_v 1) de_int) (de_glob rfl Z.g_PLAIN.choose_spec.1 Z.g_PLAIN.choose_spec.2)) (dss_one (ds_raise (Z.e_NotPlain base P w).choose_spec.choose_spec.choose_spec rfl rfl (takes_of rfl rfl rfl rfl) (hr.mono (by omega)) rfl (de_v 0))) dss_nil)
    (dss_one (ds_ret (de_v 1)))))⟩
abbrev s_first_broken : Stmt := top 38
theorem sc_first_broken : FnScope ["rule", "row", "right_rule"] ["rule", "row"] (defScope s_first_broken) := ⟨rfl, rfl, rfl, by decide +kernel, rfl, by decide +kernel, by decide +kernel⟩
theorem ok_first_broken (Z : Fx w K mg T) (F : Fun K "first_broken" "first_broken" s_first_broken f fd) (hf : mg "first_broken" = some (.ref f)) (h_check_plain : Has P w base ⟨K, mg, T⟩ "check_plain" ["rule"] 12 check_plain) (h_checked_timed : Has P w base ⟨K, mg, T⟩ "checked_timed" ["row"] 5 checked_timed) (h_broken_at : Has P w base ⟨K, mg, T⟩ "broken_at" ["rule", "row"] 5 broken_at) : Has P w base ⟨K, mg, T⟩ "first_broken" ["rule", "row"] 13 first_broken :=
  ⟨f, fd, hf, F.kp, F.binds (fun _ _ _ _ _ _ us hl => match us, hl with | [_, _], _ => rfl), fn_ok F sc_first_broken fun cdv A outer s H E hr =>
    (dss_cons (ds_asg (de_has h_check_plain rfl rfl rfl (hr.mono (by omega)) rfl (takes_of rfl rfl rfl rfl) (da_cons (de_v 0) da_nil)) (dg_name (i := 2) sc_first_broken.nd rfl (by first | exact Or.inl rfl | exact Or.inr rfl)))
    (dss_one (ds_ret (de_has h_broken_at rfl rfl rfl (hr.mono (by omega)) rfl (takes_of rfl rfl rfl rfl) (da_cons (de_v 2) (da_cons (de_has h_checked_timed rfl rfl rfl (hr.mono (by omega)) rfl (takes_of rfl rfl rfl rfl) (da_cons (de_v 1) da_nil)) da_nil))))))⟩
abbrev s_L_source : Stmt := top 40
theorem sc_L_source : FnScope ["_law_script", "_law_great", "_law_seed", "_law_cell"] ["_law_script"] (defScope s_L_source) := ⟨rfl, rfl, rfl, by decide +kernel, rfl, by decide +kernel, by decide +kernel⟩
theorem ok_L_source (Z : Fx w K mg T) (F : Fun K "_law_source" "_law_source" s_L_source f fd) (hf : mg "_law_source" = some (.ref f)) : Has P w base ⟨K, mg, T⟩ "_law_source" ["_law_script"] 1 L_source :=
  ⟨f, fd, hf, F.kp, F.binds (fun _ _ _ _ _ _ us hl => match us, hl with | [_], _ => rfl), fn_ok F sc_L_source fun cdv A outer s H E hr =>
    (dss_cons (ds_asg (de_tup (da_cons de_int (da_cons de_int da_nil))) (dg_tup rfl rfl (dgs_cons (dgv_name (i := 1) sc_L_source.nd rfl (by first | exact Or.inl rfl | exact Or.inr rfl)) (dgs_cons (dgv_name (i := 2) sc_L_source.nd rfl (by first | exact Or.inl rfl | exact Or.inr rfl)) dgs_nil))))
    (dss_cons (ds_for (passes_of rfl) rfl (di_seq rfl (de_v 0)) (dg_name (i := 3) sc_L_source.nd rfl (by first | exact Or.inl rfl | exact Or.inr rfl)) (dss_cons (ds_if (dt_w (dw_and (dt_eq rfl hr.units (de_v 1) de_int) (dw_and1 (dt_ge (de_v 3) (de_pow de_int de_int))))) (dss_one (ds_asg (de_v 3) (dg_name (i := 1) sc_L_source.nd rfl (by first | exact Or.inl rfl | exact Or.inr rfl)))) dss_nil)
    (dss_one (ds_asg (de_mod (de_int1 rfl Z.z_int (da_cons (de_add rfl (de_add rfl (de_mul (de_v 2) de_int) (de_v 3)) de_int) da_nil)) de_int) (dg_name (i := 2) sc_L_source.nd rfl (by first | exact Or.inl rfl | exact Or.inr rfl))))))
    (dss_one (ds_ret (de_cel (da_cons (de_v 1) (da_cons (de_v 2) (da_cons de_int da_nil))))))))⟩
abbrev s_L_draw : Stmt := top 41
theorem sc_L_draw : FnScope ["_law_source_here", "_law_many", "_law_digit", "_law_mixed"] ["_law_source_here", "_law_many"] (defScope s_L_draw) := ⟨rfl, rfl, rfl, by decide +kernel, rfl, by decide +kernel, by decide +kernel⟩
theorem ok_L_draw (Z : Fx w K mg T) (F : Fun K "_law_draw" "_law_draw" s_L_draw f fd) (hf : mg "_law_draw" = some (.ref f)) : Has P w base ⟨K, mg, T⟩ "_law_draw" ["_law_source_here", "_law_many"] 1 L_draw :=
  ⟨f, fd, hf, F.kp, F.binds (fun _ _ _ _ _ _ us hl => match us, hl with | [_, _], _ => rfl), fn_ok F sc_L_draw fun cdv A outer s H E hr =>
    (dss_cons (ds_asg (de_add rfl (de_item rfl (de_v 0) de_int) de_int) (dg_sub (W := WF) (de_v 0) de_int (fun _ => rfl)))
    (dss_cons (ds_if (dt_gt (de_item rfl (de_v 0) de_int) de_int) (dss_cons (ds_asg (de_mod (de_int1 rfl Z.z_int (da_cons (de_item rfl (de_v 0) de_int) da_nil)) (de_v 1)) (dg_name (i := 2) sc_L_draw.nd rfl (by first | exact Or.inl rfl | exact Or.inr rfl)))
    (dss_cons (ds_asg (de_div (de_item rfl (de_v 0) de_int) (de_v 1)) (dg_sub (W := WF) (de_v 0) de_int (fun _ => rfl)))
    (dss_one (ds_ret (de_v 2))))) dss_nil)
    (dss_cons (ds_asg (de_mod (de_pow (de_add rfl (de_item rfl (de_v 0) de_int) (de_mul de_int (de_item rfl (de_v 0) de_int))) de_int) de_int) (dg_name (i := 3) sc_L_draw.nd rfl (by first | exact Or.inl rfl | exact Or.inr rfl)))
    (dss_one (ds_ret (de_mod (de_mod (de_pow (de_add rfl (de_add rfl (de_mul (de_v 3) de_int) (de_mul (de_mul de_int (de_item rfl (de_v 0) de_int)) (de_item rfl (de_v 0) de_int))) de_int) de_int) de_int) (de_v 1)))))))⟩
abbrev s_L_pick : Stmt := top 42
theorem sc_L_pick : FnScope ["_law_source_here", "_law_things"] ["_law_source_here", "_law_things"] (defScope s_L_pick) := ⟨rfl, rfl, rfl, by decide +kernel, rfl, by decide +kernel, by decide +kernel⟩
theorem ok_L_pick (Z : Fx w K mg T) (F : Fun K "_law_pick" "_law_pick" s_L_pick f fd) (hf : mg "_law_pick" = some (.ref f)) (h_L_draw : Has P w base ⟨K, mg, T⟩ "_law_draw" ["_law_source_here", "_law_many"] 1 L_draw) : Has P w base ⟨K, mg, T⟩ "_law_pick" ["_law_source_here", "_law_things"] 2 L_pick :=
  ⟨f, fd, hf, F.kp, F.binds (fun _ _ _ _ _ _ us hl => match us, hl with | [_, _], _ => rfl), fn_ok F sc_L_pick fun cdv A outer s H E hr =>
    (dss_one (ds_ret (de_item rfl (de_v 1) (de_has h_L_draw rfl rfl rfl (hr.mono (by omega)) rfl (takes_of rfl rfl rfl rfl) (da_cons (de_v 0) (da_cons (de_len rfl rfl Z.z_len (da_cons (de_v 1) da_nil)) da_nil))))))⟩
abbrev s_L_order : Stmt := top 43
theorem sc_L_order : FnScope ["_law_source_here", "_law_things", "_law_left", "_law_found", "_law_k"] ["_law_source_here", "_law_things"] (defScope s_L_order) := ⟨rfl, rfl, rfl, by decide +kernel, rfl, by decide +kernel, by decide +kernel⟩
theorem ok_L_order (Z : Fx w K mg T) (F : Fun K "_law_order" "_law_order" s_L_order f fd) (hf : mg "_law_order" = some (.ref f)) (h_L_draw : Has P w base ⟨K, mg, T⟩ "_law_draw" ["_law_source_here", "_law_many"] 1 L_draw) : Has P w base ⟨K, mg, T⟩ "_law_order" ["_law_source_here", "_law_things"] 2 L_order :=
  ⟨f, fd, hf, F.kp, F.binds (fun _ _ _ _ _ _ us hl => match us, hl with | [_, _], _ => rfl), fn_ok F sc_L_order fun cdv A outer s H E hr =>
    (dss_cons (ds_par (k := 2) (j := 3) rfl sc_L_order.nd rfl rfl (by decide) rfl rfl (da_cons (de_listC rfl rfl Z.z_list (da_cons (de_v 1) da_nil)) (da_cons (de_cel da_nil) da_nil)) rfl)
    (dss_cons (ds_for (passes_of rfl) rfl (di_range1 rfl Z.z_range (da_cons (de_len rfl rfl Z.z_len (da_cons (de_v 2) da_nil)) da_nil)) (dg_name (i := 4) sc_L_order.nd rfl (by first | exact Or.inl rfl | exact Or.inr rfl)) (dss_one (ds_exp (de_append rfl (de_v 3) (da_cons (de_pop rfl (de_v 2) (da_cons (de_has h_L_draw rfl rfl rfl (hr.mono (by omega)) rfl (takes_of rfl rfl rfl rfl) (da_cons (de_v 0) (da_cons (de_len rfl rfl Z.z_len (da_cons (de_v 2) da_nil)) da_nil))) da_nil)) da_nil)))))
    (dss_one (ds_ret (de_fz (de_v 3))))))⟩
abbrev s_L_words : Stmt := top 44
theorem sc_L_words : FnScope ["_law_source_here", "_law_many", "_law_letters", "_law_found", "_law_k", "_law_word", "_law_j", "_law_spare", "_law_sign", "_law_one"] ["_law_source_here", "_law_many"] (defScope s_L_words) := ⟨rfl, rfl, rfl, by decide +kernel, rfl, by decide +kernel, by decide +kernel⟩
theorem ok_L_words (Z : Fx w K mg T) (F : Fun K "_law_words" "_law_words" s_L_words f fd) (hf : mg "_law_words" = some (.ref f)) (h_L_pick : Has P w base ⟨K, mg, T⟩ "_law_pick" ["_law_source_here", "_law_things"] 2 L_pick) (h_L_draw : Has P w base ⟨K, mg, T⟩ "_law_draw" ["_law_source_here", "_law_many"] 1 L_draw) : Has P w base ⟨K, mg, T⟩ "_law_words" ["_law_source_here", "_law_many"] 3 L_words :=
  ⟨f, fd, hf, F.kp, F.binds (fun _ _ _ _ _ _ us hl => match us, hl with | [_, _], _ => rfl), fn_ok F sc_L_words fun cdv A outer s H E hr =>
    (dss_cons (ds_asg (de_tup (da_cons de_str (da_cons (de_cel da_nil) da_nil))) (dg_tup rfl rfl (dgs_cons (dgv_name (i := 2) sc_L_words.nd rfl (by first | exact Or.inl rfl | exact Or.inr rfl)) (dgs_cons (dgv_name (i := 3) sc_L_words.nd rfl (by first | exact Or.inl rfl | exact Or.inr rfl)) dgs_nil))))
    (dss_cons (ds_for (passes_of rfl) rfl (di_range1 rfl Z.z_range (da_cons (de_v 1) da_nil)) (dg_name (i := 4) sc_L_words.nd rfl (by first | exact Or.inl rfl | exact Or.inr rfl)) (dss_cons (ds_asg (de_has h_L_pick rfl rfl rfl (hr.mono (by omega)) rfl (takes_of rfl rfl rfl rfl) (da_cons (de_v 0) (da_cons (de_v 2) da_nil))) (dg_name (i := 5) sc_L_words.nd rfl (by first | exact Or.inl rfl | exact Or.inr rfl)))
    (dss_cons (ds_for (passes_of rfl) rfl (di_range1 rfl Z.z_range (da_cons (de_item rfl (de_lst (da_cons de_int (da_cons de_int (da_cons de_int (da_cons de_int (da_cons de_int da_nil)))))) (de_has h_L_draw rfl rfl rfl (hr.mono (by omega)) rfl (takes_of rfl rfl rfl rfl) (da_cons (de_v 0) (da_cons de_int da_nil)))) da_nil)) (dg_name (i := 6) sc_L_words.nd rfl (by first | exact Or.inl rfl | exact Or.inr rfl)) (dss_one (ds_asg (de_add rfl (de_v 5) (de_has h_L_pick rfl rfl rfl (hr.mono (by omega)) rfl (takes_of rfl rfl rfl rfl) (da_cons (de_v 0) (da_cons (de_v 2) da_nil)))) (dg_name (i := 5) sc_L_words.nd rfl (by first | exact Or.inl rfl | exact Or.inr rfl)))))
    (dss_cons (ds_asg (de_add rfl (de_lst (da_cons (de_v 5) da_nil)) (de_lc [("_law_sign", 8)] rfl sc_L_words.nd (di_seq rfl (de_v 2)) (by show BlkOk ["_law_source_here", "_law_many", "_law_letters", "_law_found", "_law_k", "_law_word", "_law_j", "_law_spare", "_law_sign", "_law_one"] (defScope s_L_words) _ _; exact ⟨rfl, by decide +kernel, by decide +kernel, by decide +kernel, by decide +kernel⟩) (by decide) (fun _ _ _ _ _ => (dgv_name (i := 8) sc_L_words.nd rfl (by first | exact Or.inl rfl | exact Or.inr rfl))) (fun _ _ _ _ _ => dts_nil) (fun _ _ _ _ _ => (de_add rfl (de_add rfl (de_v 8) de_str) (de_v 8))))) (dg_name (i := 7) sc_L_words.nd rfl (by first | exact Or.inl rfl | exact Or.inr rfl)))
    (dss_one (ds_exp (de_append rfl (de_v 3) (da_cons (de_item rfl (de_lc [("_law_one", 9)] rfl sc_L_words.nd (di_seq rfl (de_v 7)) (by show BlkOk ["_law_source_here", "_law_many", "_law_letters", "_law_found", "_law_k", "_law_word", "_law_j", "_law_spare", "_law_sign", "_law_one"] (defScope s_L_words) _ _; exact ⟨rfl, by decide +kernel, by decide +kernel, by decide +kernel, by decide +kernel⟩) (by decide) (fun _ _ _ _ _ => (dgv_name (i := 9) sc_L_words.nd rfl (by first | exact Or.inl rfl | exact Or.inr rfl))) (fun _ _ _ _ _ => (dts_one (dt_nin rfl (de_v 9) (de_v 3)))) (fun _ _ _ _ _ => (de_v 9))) de_int) da_nil))))))))
    (dss_one (ds_ret (de_fz (de_v 3))))))⟩
abbrev s_L_lean : Stmt := top 45
theorem sc_L_lean : FnScope ["_law_top", "_law_bottom", "_law_one", "_law_other"] ["_law_top", "_law_bottom"] (defScope s_L_lean) := ⟨rfl, rfl, rfl, by decide +kernel, rfl, by decide +kernel, by decide +kernel⟩
theorem ok_L_lean (Z : Fx w K mg T) (F : Fun K "_law_lean" "_law_lean" s_L_lean f fd) (hf : mg "_law_lean" = some (.ref f)) : Has P w base ⟨K, mg, T⟩ "_law_lean" ["_law_top", "_law_bottom"] 1 L_lean :=
  ⟨f, fd, hf, F.kp, F.binds (fun _ _ _ _ _ _ us hl => match us, hl with | [_, _], _ => rfl), fn_ok F sc_L_lean fun cdv A outer s H E hr =>
    (dss_cons (ds_par (k := 2) (j := 3) rfl sc_L_lean.nd rfl rfl (by decide) rfl rfl (da_cons (de_abs rfl Z.z_abs (da_cons (de_v 0) da_nil)) (da_cons (de_v 1) da_nil)) rfl)
    (dss_cons (ds_while (fuelAt 3) (passes_of rfl) (dt_ne rfl hr.units (de_v 3) de_int) (dss_one (ds_par (k := 2) (j := 3) rfl sc_L_lean.nd rfl rfl (by decide) rfl rfl (da_cons (de_v 3) (da_cons (de_mod (de_int1 rfl Z.z_int (da_cons (de_v 2) da_nil)) (de_v 3)) da_nil)) rfl)))
    (dss_one (ds_ret (de_tup (da_cons (de_div (de_v 0) (de_v 2)) (da_cons (de_div (de_v 1) (de_v 2)) da_nil)))))))⟩
abbrev s_L_plus : Stmt := top 46
theorem sc_L_plus : FnScope ["_law_one", "_law_other"] ["_law_one", "_law_other"] (defScope s_L_plus) := ⟨rfl, rfl, rfl, by decide +kernel, rfl, by decide +kernel, by decide +kernel⟩
theorem ok_L_plus (Z : Fx w K mg T) (F : Fun K "_law_plus" "_law_plus" s_L_plus f fd) (hf : mg "_law_plus" = some (.ref f)) (h_L_lean : Has P w base ⟨K, mg, T⟩ "_law_lean" ["_law_top", "_law_bottom"] 1 L_lean) : Has P w base ⟨K, mg, T⟩ "_law_plus" ["_law_one", "_law_other"] 2 L_plus :=
  ⟨f, fd, hf, F.kp, F.binds (fun _ _ _ _ _ _ us hl => match us, hl with | [_, _], _ => rfl), fn_ok F sc_L_plus fun cdv A outer s H E hr =>
    (dss_one (ds_ret (de_has h_L_lean rfl rfl rfl (hr.mono (by omega)) rfl (takes_of rfl rfl rfl rfl) (da_cons (de_add rfl (de_mul (de_item rfl (de_v 0) de_int) (de_item rfl (de_v 1) de_int)) (de_mul (de_item rfl (de_v 1) de_int) (de_item rfl (de_v 0) de_int))) (da_cons (de_mul (de_item rfl (de_v 0) de_int) (de_item rfl (de_v 1) de_int)) da_nil)))))⟩
abbrev s_L_minus : Stmt := top 47
theorem sc_L_minus : FnScope ["_law_one", "_law_other"] ["_law_one", "_law_other"] (defScope s_L_minus) := ⟨rfl, rfl, rfl, by decide +kernel, rfl, by decide +kernel, by decide +kernel⟩
theorem ok_L_minus (Z : Fx w K mg T) (F : Fun K "_law_minus" "_law_minus" s_L_minus f fd) (hf : mg "_law_minus" = some (.ref f)) (h_L_lean : Has P w base ⟨K, mg, T⟩ "_law_lean" ["_law_top", "_law_bottom"] 1 L_lean) : Has P w base ⟨K, mg, T⟩ "_law_minus" ["_law_one", "_law_other"] 2 L_minus :=
  ⟨f, fd, hf, F.kp, F.binds (fun _ _ _ _ _ _ us hl => match us, hl with | [_, _], _ => rfl), fn_ok F sc_L_minus fun cdv A outer s H E hr =>
    (dss_one (ds_ret (de_has h_L_lean rfl rfl rfl (hr.mono (by omega)) rfl (takes_of rfl rfl rfl rfl) (da_cons (de_sub (de_mul (de_item rfl (de_v 0) de_int) (de_item rfl (de_v 1) de_int)) (de_mul (de_item rfl (de_v 1) de_int) (de_item rfl (de_v 0) de_int))) (da_cons (de_mul (de_item rfl (de_v 0) de_int) (de_item rfl (de_v 1) de_int)) da_nil)))))⟩
abbrev s_L_is_so : Stmt := top 48
theorem sc_L_is_so : FnScope ["_law_length", "_law_word", "_law_number", "_law_over"] ["_law_length", "_law_word", "_law_number"] (defScope s_L_is_so) := ⟨rfl, rfl, rfl, by decide +kernel, rfl, by decide +kernel, by decide +kernel⟩
theorem ok_L_is_so (Z : Fx w K mg T) (F : Fun K "_law_is_so" "_law_is_so" s_L_is_so f fd) (hf : mg "_law_is_so" = some (.ref f)) : Has P w base ⟨K, mg, T⟩ "_law_is_so" ["_law_length", "_law_word", "_law_number"] 1 L_is_so :=
  ⟨f, fd, hf, F.kp, F.binds (fun _ _ _ _ _ _ us hl => match us, hl with | [_, _, _], _ => rfl), fn_ok F sc_L_is_so fun cdv A outer s H E hr =>
    (dss_cons (ds_asg (de_sub (de_item rfl (de_v 0) de_int) (de_mul (de_v 2) (de_item rfl (de_v 0) de_int))) (dg_name (i := 3) sc_L_is_so.nd rfl (by first | exact Or.inl rfl | exact Or.inr rfl)))
    (dss_cons (ds_if (dt_in rfl (de_v 1) (de_tup (da_cons de_str (da_cons de_str da_nil)))) (dss_one (ds_ret (de_or (de_lt (de_v 3) de_int) (de_one (de_and (de_eq rfl hr.units (de_v 3) de_int) (de_one (de_eq rfl hr.units (de_v 1) de_str))))))) dss_nil)
    (dss_one (ds_ret (de_or (de_gt (de_v 3) de_int) (de_one (de_and (de_eq rfl hr.units (de_v 3) de_int) (de_one (de_eq rfl hr.units (de_v 1) de_str)))))))))⟩
abbrev s_L_shown_times : Stmt := top 49
theorem sc_L_shown_times : FnScope ["_law_source_here", "_law_row_here", "_law_found", "_law_sign", "_law_time", "_law_many", "_law_pair"] ["_law_source_here", "_law_row_here"] (defScope s_L_shown_times) := ⟨rfl, rfl, rfl, by decide +kernel, rfl, by decide +kernel, by decide +kernel⟩
theorem ok_L_shown_times (Z : Fx w K mg T) (F : Fun K "_law_shown_times" "_law_shown_times" s_L_shown_times f fd) (hf : mg "_law_shown_times" = some (.ref f)) (h_L_draw : Has P w base ⟨K, mg, T⟩ "_law_draw" ["_law_source_here", "_law_many"] 1 L_draw) (h_L_pick : Has P w base ⟨K, mg, T⟩ "_law_pick" ["_law_source_here", "_law_things"] 2 L_pick) : Has P w base ⟨K, mg, T⟩ "_law_shown_times" ["_law_source_here", "_law_row_here"] 3 L_shown_times :=
  ⟨f, fd, hf, F.kp, F.binds (fun _ _ _ _ _ _ us hl => match us, hl with | [_, _], _ => rfl), fn_ok F sc_L_shown_times fun cdv A outer s H E hr =>
    (dss_cons (ds_asg (de_cel da_nil) (dg_name (i := 2) sc_L_shown_times.nd rfl (by first | exact Or.inl rfl | exact Or.inr rfl)))
    (dss_cons (ds_for (passes_of rfl) rfl (di_seq rfl (de_v 1)) (dg_tup rfl rfl (dgs_cons (dgv_name (i := 3) sc_L_shown_times.nd rfl (by first | exact Or.inl rfl | exact Or.inr rfl)) (dgs_cons (dgv_name (i := 4) sc_L_shown_times.nd rfl (by first | exact Or.inl rfl | exact Or.inr rfl)) dgs_nil))) (dss_cons (ds_asg (de_add rfl de_int (de_has h_L_draw rfl rfl rfl (hr.mono (by omega)) rfl (takes_of rfl rfl rfl rfl) (da_cons (de_v 0) (da_cons de_int da_nil)))) (dg_name (i := 5) sc_L_shown_times.nd rfl (by first | exact Or.inl rfl | exact Or.inr rfl)))
    (dss_cons (ds_asg (de_tup (da_cons (de_mul (de_item rfl (de_v 4) de_int) (de_v 5)) (da_cons (de_mul (de_item rfl (de_v 4) de_int) (de_v 5)) da_nil))) (dg_name (i := 6) sc_L_shown_times.nd rfl (by first | exact Or.inl rfl | exact Or.inr rfl)))
    (dss_one (ds_exp (de_append rfl (de_v 2) (da_cons (de_has h_L_pick rfl rfl rfl (hr.mono (by omega)) rfl (takes_of rfl rfl rfl rfl) (da_cons (de_v 0) (da_cons (de_lst (da_cons (de_tup (da_cons (de_v 3) (da_cons (de_v 6) da_nil))) (da_cons (de_lst (da_cons (de_v 3) (da_cons (de_list rfl rfl Z.z_list (da_cons (de_v 6) da_nil)) da_nil))) (da_cons (de_tup (da_cons (de_v 3) (da_cons (de_list rfl rfl Z.z_list (da_cons (de_v 6) da_nil)) da_nil))) da_nil)))) da_nil))) da_nil)))))))
    (dss_one (ds_ret (de_has h_L_pick rfl rfl rfl (hr.mono (by omega)) rfl (takes_of rfl rfl rfl rfl) (da_cons (de_v 0) (da_cons (de_lst (da_cons (de_fz (de_v 2)) (da_cons (de_tuple rfl rfl Z.z_tuple (da_cons (de_v 2) da_nil)) da_nil))) da_nil)))))))⟩
abbrev s_L_gap : Stmt := top 50
theorem sc_L_gap : FnScope ["_law_source_here"] ["_law_source_here"] (defScope s_L_gap) := ⟨rfl, rfl, rfl, by decide +kernel, rfl, by decide +kernel, by decide +kernel⟩
theorem ok_L_gap (Z : Fx w K mg T) (F : Fun K "_law_gap" "_law_gap" s_L_gap f fd) (hf : mg "_law_gap" = some (.ref f)) (h_L_pick : Has P w base ⟨K, mg, T⟩ "_law_pick" ["_law_source_here", "_law_things"] 2 L_pick) : Has P w base ⟨K, mg, T⟩ "_law_gap" ["_law_source_here"] 3 L_gap :=
  ⟨f, fd, hf, F.kp, F.binds (fun _ _ _ _ _ _ us hl => match us, hl with | [_], _ => rfl), fn_ok F sc_L_gap fun cdv A outer s H E hr =>
    (dss_one (ds_ret (de_has h_L_pick rfl rfl rfl (hr.mono (by omega)) rfl (takes_of rfl rfl rfl rfl) (da_cons (de_v 0) (da_cons (de_lst (da_cons (de_tup (da_cons de_int (da_cons de_int da_nil))) (da_cons (de_tup (da_cons de_int (da_cons de_int da_nil))) (da_cons (de_tup (da_cons de_int (da_cons de_int da_nil))) (da_cons (de_tup (da_cons de_int (da_cons de_int da_nil))) (da_cons (de_tup (da_cons de_int (da_cons de_int da_nil))) (da_cons (de_tup (da_cons de_int (da_cons de_int da_nil))) (da_cons (de_tup (da_cons de_int (da_cons de_int da_nil))) (da_cons (de_tup (da_cons de_int (da_cons de_int da_nil))) (da_cons (de_tup (da_cons de_int (da_cons de_int da_nil))) (da_cons (de_tup (da_cons de_int (da_cons de_int da_nil))) da_nil))))))))))) da_nil)))))⟩
abbrev s_L_plain : Stmt := top 51
theorem sc_L_plain : FnScope ["_law_source_here", "_law_signs", "_law_most", "_law_kind", "_law_pair", "_law_word"] ["_law_source_here", "_law_signs", "_law_most"] (defScope s_L_plain) := ⟨rfl, rfl, rfl, by decide +kernel, rfl, by decide +kernel, by decide +kernel⟩
theorem ok_L_plain (Z : Fx w K mg T) (F : Fun K "_law_plain" "_law_plain" s_L_plain f fd) (hf : mg "_law_plain" = some (.ref f)) (h_L_pick : Has P w base ⟨K, mg, T⟩ "_law_pick" ["_law_source_here", "_law_things"] 2 L_pick) (h_L_draw : Has P w base ⟨K, mg, T⟩ "_law_draw" ["_law_source_here", "_law_many"] 1 L_draw) (h_L_order : Has P w base ⟨K, mg, T⟩ "_law_order" ["_law_source_here", "_law_things"] 2 L_order) : Has P w base ⟨K, mg, T⟩ "_law_plain" ["_law_source_here", "_law_signs", "_law_most"] 3 L_plain :=
  ⟨f, fd, hf, F.kp, F.binds (fun _ _ _ _ _ _ us hl => match us, hl with | [_, _, _], _ => rfl), fn_ok F sc_L_plain fun cdv A outer s H E hr =>
    (dss_cons (ds_par (k := 3) (j := 4) rfl sc_L_plain.nd rfl rfl (by decide) rfl rfl (da_cons (de_has h_L_pick rfl rfl rfl (hr.mono (by omega)) rfl (takes_of rfl rfl rfl rfl) (da_cons (de_v 0) (da_cons (de_lst (da_cons de_str (da_cons de_str (da_cons de_str da_nil)))) da_nil))) (da_cons (de_lst (da_cons (de_has h_L_pick rfl rfl rfl (hr.mono (by omega)) rfl (takes_of rfl rfl rfl rfl) (da_cons (de_v 0) (da_cons (de_v 1) da_nil))) (da_cons (de_has h_L_pick rfl rfl rfl (hr.mono (by omega)) rfl (takes_of rfl rfl rfl rfl) (da_cons (de_v 0) (da_cons (de_v 1) da_nil))) da_nil))) da_nil)) rfl)
    (dss_cons (ds_if (dt_w (dw_and (dt_eq rfl hr.units (de_item rfl (de_v 4) de_int) (de_item rfl (de_v 4) de_int)) (dw_and1 (dt_gt (de_has h_L_draw rfl rfl rfl (hr.mono (by omega)) rfl (takes_of rfl rfl rfl rfl) (da_cons (de_v 0) (da_cons de_int da_nil))) de_int)))) (dss_one (ds_asg (de_slice rfl (de_add rfl (de_has h_L_order rfl rfl rfl (hr.mono (by omega)) rfl (takes_of rfl rfl rfl rfl) (da_cons (de_v 0) (da_cons (de_v 1) da_nil))) (de_v 1)) do_none (do_some de_int)) (dg_name (i := 4) sc_L_plain.nd rfl (by first | exact Or.inl rfl | exact Or.inr rfl)))) dss_nil)
    (dss_cons (ds_asg (de_has h_L_pick rfl rfl rfl (hr.mono (by omega)) rfl (takes_of rfl rfl rfl rfl) (da_cons (de_v 0) (da_cons (de_if (dt_eq rfl hr.units (de_v 3) de_str) (de_lst (da_cons de_str (da_cons de_str (da_cons de_str (da_cons de_str da_nil))))) (de_lst (da_cons de_str (da_cons de_str da_nil)))) da_nil))) (dg_name (i := 5) sc_L_plain.nd rfl (by first | exact Or.inl rfl | exact Or.inr rfl)))
    (dss_one (ds_ret (de_tup (da_cons (de_v 3) (da_cons (de_item rfl (de_v 4) de_int) (da_cons (de_item rfl (de_v 4) de_int) (da_cons (de_v 5) (da_cons (de_has h_L_draw rfl rfl rfl (hr.mono (by omega)) rfl (takes_of rfl rfl rfl rfl) (da_cons (de_v 0) (da_cons (de_add rfl (de_v 2) de_int) da_nil))) da_nil)))))))))))⟩
abbrev s_L_rule : Stmt := top 52
theorem sc_L_rule : FnScope ["_law_source_here", "_law_signs", "_law_most", "_law_many", "_law_deep", "_law_way", "_law_few", "_law_one"] ["_law_source_here", "_law_signs", "_law_most", "_law_many", "_law_deep"] (defScope s_L_rule) := ⟨rfl, rfl, rfl, by decide +kernel, rfl, by decide +kernel, by decide +kernel⟩
theorem ok_L_rule {k : Nat} {self : List D → Sto → Out D} (hk : 3 ≤ k) (Z : Fx w K mg T) (F : Fun K "_law_rule" "_law_rule" s_L_rule f fd) (hf : mg "_law_rule" = some (.ref f)) (hself : Has P w base ⟨K, mg, T⟩ "_law_rule" ["_law_source_here", "_law_signs", "_law_most", "_law_many", "_law_deep"] k self) (h_L_draw : Has P w base ⟨K, mg, T⟩ "_law_draw" ["_law_source_here", "_law_many"] 1 L_draw) (h_L_plain : Has P w base ⟨K, mg, T⟩ "_law_plain" ["_law_source_here", "_law_signs", "_law_most"] 3 L_plain) (h_L_pick : Has P w base ⟨K, mg, T⟩ "_law_pick" ["_law_source_here", "_law_things"] 2 L_pick) : Has P w base ⟨K, mg, T⟩ "_law_rule" ["_law_source_here", "_law_signs", "_law_most", "_law_many", "_law_deep"] (k + 1) (runM 8 (m_L_rule self)) :=
  ⟨f, fd, hf, F.kp, F.binds (fun _ _ _ _ _ _ us hl => match us, hl with | [_, _, _, _, _], _ => rfl), fn_ok F sc_L_rule fun cdv A outer s H E hr =>
    (dss_cons (ds_asg (de_has h_L_draw rfl rfl rfl (hr.mono (by omega)) rfl (takes_of rfl rfl rfl rfl) (da_cons (de_v 0) (da_cons de_int da_nil))) (dg_name (i := 5) sc_L_rule.nd rfl (by first | exact Or.inl rfl | exact Or.inr rfl)))
    (dss_cons (ds_if (dt_w (dw_or (dt_w (dw_and (dt_lt (de_v 3) de_int) (dw_and1 (dt_gt (de_v 5) de_int)))) (dw_or (dt_lt (de_v 5) de_int) (dw_or1 (dt_eq rfl hr.units (de_v 4) de_int))))) (dss_one (ds_ret (de_has h_L_plain rfl rfl rfl (hr.mono (by omega)) rfl (takes_of rfl rfl rfl rfl) (da_cons (de_v 0) (da_cons (de_v 1) (da_cons (de_v 2) da_nil)))))) dss_nil)
    (dss_cons (ds_if (dt_eq rfl hr.units (de_v 5) de_int) (dss_one (ds_ret (de_tup (da_cons de_str (da_cons (de_has hself rfl rfl rfl (hr.mono (by omega)) rfl (takes_of rfl rfl rfl rfl) (da_cons (de_v 0) (da_cons (de_v 1) (da_cons (de_v 2) (da_cons (de_v 3) (da_cons (de_sub (de_v 4) de_int) da_nil)))))) da_nil))))) dss_nil)
    (dss_cons (ds_asg (de_add rfl de_int (de_has h_L_draw rfl rfl rfl (hr.mono (by omega)) rfl (takes_of rfl rfl rfl rfl) (da_cons (de_v 0) (da_cons (de_sub (de_v 3) de_int) da_nil)))) (dg_name (i := 6) sc_L_rule.nd rfl (by first | exact Or.inl rfl | exact Or.inr rfl)))
    (dss_cons (ds_asg (de_has hself rfl rfl rfl (hr.mono (by omega)) rfl (takes_of rfl rfl rfl rfl) (da_cons (de_v 0) (da_cons (de_v 1) (da_cons (de_v 2) (da_cons (de_v 6) (da_cons (de_sub (de_v 4) de_int) da_nil)))))) (dg_name (i := 7) sc_L_rule.nd rfl (by first | exact Or.inl rfl | exact Or.inr rfl)))
    (dss_one (ds_ret (de_tup (da_cons (de_has h_L_pick rfl rfl rfl (hr.mono (by omega)) rfl (takes_of rfl rfl rfl rfl) (da_cons (de_v 0) (da_cons (de_lst (da_cons de_str (da_cons de_str da_nil))) da_nil))) (da_cons (de_v 7) (da_cons (de_has hself rfl rfl rfl (hr.mono (by omega)) rfl (takes_of rfl rfl rfl rfl) (da_cons (de_v 0) (da_cons (de_v 1) (da_cons (de_v 2) (da_cons (de_sub (de_v 3) (de_v 6)) (da_cons (de_sub (de_v 4) de_int) da_nil)))))) da_nil)))))))))))⟩
theorem rec_L_rule (Z : Fx w K mg T) (F : Fun K "_law_rule" "_law_rule" s_L_rule f fd) (hf : mg "_law_rule" = some (.ref f)) (h_L_draw : Has P w base ⟨K, mg, T⟩ "_law_draw" ["_law_source_here", "_law_many"] 1 L_draw) (h_L_plain : Has P w base ⟨K, mg, T⟩ "_law_plain" ["_law_source_here", "_law_signs", "_law_most"] 3 L_plain) (h_L_pick : Has P w base ⟨K, mg, T⟩ "_law_pick" ["_law_source_here", "_law_things"] 2 L_pick) : ∀ n : Nat, Has P w base ⟨K, mg, T⟩ "_law_rule" ["_law_source_here", "_law_signs", "_law_most", "_law_many", "_law_deep"] (3 + n) (L_rule n)
  | 0 => Has.none hf F.kp (F.binds (fun _ _ _ _ _ _ us hl => match us, hl with | [_, _, _, _, _], _ => rfl))
  | n + 1 => ok_L_rule (Nat.le_add_right _ _) Z F hf (rec_L_rule Z F hf h_L_draw h_L_plain h_L_pick n) h_L_draw h_L_plain h_L_pick
abbrev s_L_shown_rule : Stmt := top 53
theorem sc_L_shown_rule : FnScope ["_law_source_here", "_law_rule_here", "_law_parts", "_law_part"] ["_law_source_here", "_law_rule_here"] (defScope s_L_shown_rule) := ⟨rfl, rfl, rfl, by decide +kernel, rfl, by decide +kernel, by decide +kernel⟩
theorem ok_L_shown_rule {k : Nat} {self : List D → Sto → Out D} (hk : 2 ≤ k) (Z : Fx w K mg T) (F : Fun K "_law_shown_rule" "_law_shown_rule" s_L_shown_rule f fd) (hf : mg "_law_shown_rule" = some (.ref f)) (hself : Has P w base ⟨K, mg, T⟩ "_law_shown_rule" ["_law_source_here", "_law_rule_here"] k self) (h_L_pick : Has P w base ⟨K, mg, T⟩ "_law_pick" ["_law_source_here", "_law_things"] 2 L_pick) : Has P w base ⟨K, mg, T⟩ "_law_shown_rule" ["_law_source_here", "_law_rule_here"] (k + 1) (runM 4 (m_L_shown_rule self)) :=
  ⟨f, fd, hf, F.kp, F.binds (fun _ _ _ _ _ _ us hl => match us, hl with | [_, _], _ => rfl), fn_ok F sc_L_shown_rule fun cdv A outer s H E hr =>
    (dss_cons (ds_setLc (i := 2) [("_law_part", 3)] rfl sc_L_shown_rule.nd rfl rfl rfl (di_seq rfl (de_v 1)) (by show BlkOk ["_law_source_here", "_law_rule_here", "_law_parts", "_law_part"] (defScope s_L_shown_rule) _ _; exact ⟨rfl, by decide +kernel, by decide +kernel, by decide +kernel, by decide +kernel⟩) (by decide) (fun _ _ _ _ _ => (dgv_name (i := 3) sc_L_shown_rule.nd rfl (by first | exact Or.inl rfl | exact Or.inr rfl))) (fun _ _ _ _ _ => dts_nil) (fun _ _ _ _ _ => (de_if (dt_val (de_isa rfl rfl rfl Z.z_isinstance rfl Z.z_tuple (by decide +kernel) (de_v 3))) (de_has hself rfl rfl rfl (hr.mono (by omega)) rfl takes0 (da_cons (de_v 0) (da_cons (de_v 3) da_nil))) (de_v 3))))
    (dss_one (ds_ret (de_has h_L_pick rfl rfl rfl (hr.mono (by omega)) rfl (takes_of rfl rfl rfl rfl) (da_cons (de_v 0) (da_cons (de_lst (da_cons (de_v 2) (da_cons (de_tuple rfl rfl Z.z_tuple (da_cons (de_v 2) da_nil)) da_nil))) da_nil))))))⟩
theorem rec_L_shown_rule (Z : Fx w K mg T) (F : Fun K "_law_shown_rule" "_law_shown_rule" s_L_shown_rule f fd) (hf : mg "_law_shown_rule" = some (.ref f)) (h_L_pick : Has P w base ⟨K, mg, T⟩ "_law_pick" ["_law_source_here", "_law_things"] 2 L_pick) : ∀ n : Nat, Has P w base ⟨K, mg, T⟩ "_law_shown_rule" ["_law_source_here", "_law_rule_here"] (2 + n) (L_shown_rule n)
  | 0 => Has.none hf F.kp (F.binds (fun _ _ _ _ _ _ us hl => match us, hl with | [_, _], _ => rfl))
  | n + 1 => ok_L_shown_rule (Nat.le_add_right _ _) Z F hf (rec_L_shown_rule Z F hf h_L_pick n) h_L_pick
abbrev s_L_has_other : Stmt := top 54
theorem sc_L_has_other : FnScope ["_law_rule_here", "_law_row_here", "_law_at", "_law_kind", "_law_one", "_law_other", "_law_word", "_law_number", "_law_k", "_law_sign", "_law_time"] ["_law_rule_here", "_law_row_here", "_law_at"] (defScope s_L_has_other) := ⟨rfl, rfl, rfl, by decide +kernel, rfl, by decide +kernel, by decide +kernel⟩
theorem ok_L_has_other (Z : Fx w K mg T) (F : Fun K "_law_has_other" "_law_has_other" s_L_has_other f fd) (hf : mg "_law_has_other" = some (.ref f)) (h_L_minus : Has P w base ⟨K, mg, T⟩ "_law_minus" ["_law_one", "_law_other"] 2 L_minus) (h_L_is_so : Has P w base ⟨K, mg, T⟩ "_law_is_so" ["_law_length", "_law_word", "_law_number"] 1 L_is_so) : Has P w base ⟨K, mg, T⟩ "_law_has_other" ["_law_rule_here", "_law_row_here", "_law_at"] 3 L_has_other :=
  ⟨f, fd, hf, F.kp, F.binds (fun _ _ _ _ _ _ us hl => match us, hl with | [_, _, _], _ => rfl), fn_ok F sc_L_has_other fun cdv A outer s H E hr =>
    (dss_cons (ds_asg (de_v 0) (dg_tup rfl rfl (dgs_cons (dgv_name (i := 3) sc_L_has_other.nd rfl (by first | exact Or.inl rfl | exact Or.inr rfl)) (dgs_cons (dgv_name (i := 4) sc_L_has_other.nd rfl (by first | exact Or.inl rfl | exact Or.inr rfl)) (dgs_cons (dgv_name (i := 5) sc_L_has_other.nd rfl (by first | exact Or.inl rfl | exact Or.inr rfl)) (dgs_cons (dgv_name (i := 6) sc_L_has_other.nd rfl (by first | exact Or.inl rfl | exact Or.inr rfl)) (dgs_cons (dgv_name (i := 7) sc_L_has_other.nd rfl (by first | exact Or.inl rfl | exact Or.inr rfl)) dgs_nil)))))))
    (dss_cons (ds_for (passes_of rfl) rfl (di_enum rfl rfl Z.z_enumerate (de_v 1)) (dg_tup rfl rfl (dgs_cons (dgv_name (i := 8) sc_L_has_other.nd rfl (by first | exact Or.inl rfl | exact Or.inr rfl)) (dgs_cons (dgv_tup rfl rfl (dgs_cons (dgv_name (i := 9) sc_L_has_other.nd rfl (by first | exact Or.inl rfl | exact Or.inr rfl)) (dgs_cons (dgv_name (i := 10) sc_L_has_other.nd rfl (by first | exact Or.inl rfl | exact Or.inr rfl)) dgs_nil))) dgs_nil))) (dss_cons (ds_if (dt_w (dw_and (dt_eq rfl hr.units (de_v 9) (de_v 5)) (dw_and (dt_eq rfl hr.units (de_v 3) de_str) (dw_and1 (dt_lt (de_v 8) (de_v 2)))))) (dss_one (ds_if (dt_val (de_has h_L_is_so rfl rfl rfl (hr.mono (by omega)) rfl (takes_of rfl rfl rfl rfl) (da_cons (de_has h_L_minus rfl rfl rfl (hr.mono (by omega)) rfl (takes_of rfl rfl rfl rfl) (da_cons (de_item rfl (de_item rfl (de_v 1) (de_v 2)) de_int) (da_cons (de_v 10) da_nil))) (da_cons (de_v 6) (da_cons (de_v 7) da_nil))))) (dss_one (ds_ret de_bl)) dss_nil)) dss_nil)
    (dss_one (ds_if (dt_w (dw_and (dt_eq rfl hr.units (de_v 9) (de_v 5)) (dw_and (dt_eq rfl hr.units (de_v 3) de_str) (dw_and1 (dt_gt (de_v 8) (de_v 2)))))) (dss_one (ds_if (dt_val (de_has h_L_is_so rfl rfl rfl (hr.mono (by omega)) rfl (takes_of rfl rfl rfl rfl) (da_cons (de_has h_L_minus rfl rfl rfl (hr.mono (by omega)) rfl (takes_of rfl rfl rfl rfl) (da_cons (de_v 10) (da_cons (de_item rfl (de_item rfl (de_v 1) (de_v 2)) de_int) da_nil))) (da_cons (de_v 6) (da_cons (de_v 7) da_nil))))) (dss_one (ds_ret de_bl)) dss_nil)) dss_nil))))
    (dss_one (ds_ret de_bl))))⟩
abbrev s_L_broken : Stmt := top 55
theorem sc_L_broken : FnScope ["_law_rule_here", "_law_row_here", "_law_at", "_law_sign", "_law_time"] ["_law_rule_here", "_law_row_here"] (defScope s_L_broken) := ⟨rfl, rfl, rfl, by decide +kernel, rfl, by decide +kernel, by decide +kernel⟩
theorem ok_L_broken (Z : Fx w K mg T) (F : Fun K "_law_broken" "_law_broken" s_L_broken f fd) (hf : mg "_law_broken" = some (.ref f)) (h_L_has_other : Has P w base ⟨K, mg, T⟩ "_law_has_other" ["_law_rule_here", "_law_row_here", "_law_at"] 3 L_has_other) : Has P w base ⟨K, mg, T⟩ "_law_broken" ["_law_rule_here", "_law_row_here"] 4 L_broken :=
  ⟨f, fd, hf, F.kp, F.binds (fun _ _ _ _ _ _ us hl => match us, hl with | [_, _], _ => rfl), fn_ok F sc_L_broken fun cdv A outer s H E hr =>
    (dss_cons (ds_for (passes_of rfl) rfl (di_enum rfl rfl Z.z_enumerate (de_v 1)) (dg_tup rfl rfl (dgs_cons (dgv_name (i := 2) sc_L_broken.nd rfl (by first | exact Or.inl rfl | exact Or.inr rfl)) (dgs_cons (dgv_tup rfl rfl (dgs_cons (dgv_name (i := 3) sc_L_broken.nd rfl (by first | exact Or.inl rfl | exact Or.inr rfl)) (dgs_cons (dgv_name (i := 4) sc_L_broken.nd rfl (by first | exact Or.inl rfl | exact Or.inr rfl)) dgs_nil))) dgs_nil))) (dss_one (ds_if (dt_w (dw_and (dt_eq rfl hr.units (de_v 3) (de_item rfl (de_v 0) de_int)) (dw_and1 (dt_not (dt_val (de_has h_L_has_other rfl rfl rfl (hr.mono (by omega)) rfl (takes_of rfl rfl rfl rfl) (da_cons (de_v 0) (da_cons (de_v 1) (da_cons (de_v 2) da_nil))))))))) (dss_one (ds_ret (de_v 2))) dss_nil)))
    (dss_one (ds_ret de_non)))⟩
abbrev s_L_keeps : Stmt := top 56
theorem sc_L_keeps : FnScope ["_law_rule_here", "_law_row_here", "_law_kept", "_law_part"] ["_law_rule_here", "_law_row_here"] (defScope s_L_keeps) := ⟨rfl, rfl, rfl, by decide +kernel, rfl, by decide +kernel, by decide +kernel⟩
theorem ok_L_keeps {k : Nat} {self : List D → Sto → Out D} (hk : 4 ≤ k) (Z : Fx w K mg T) (F : Fun K "_law_keeps" "_law_keeps" s_L_keeps f fd) (hf : mg "_law_keeps" = some (.ref f)) (hself : Has P w base ⟨K, mg, T⟩ "_law_keeps" ["_law_rule_here", "_law_row_here"] k self) (h_L_broken : Has P w base ⟨K, mg, T⟩ "_law_broken" ["_law_rule_here", "_law_row_here"] 4 L_broken) : Has P w base ⟨K, mg, T⟩ "_law_keeps" ["_law_rule_here", "_law_row_here"] (k + 1) (runM 4 (m_L_keeps self)) :=
  ⟨f, fd, hf, F.kp, F.binds (fun _ _ _ _ _ _ us hl => match us, hl with | [_, _], _ => rfl), fn_ok F sc_L_keeps fun cdv A outer s H E hr =>
    (dss_cons (ds_if (dt_in rfl (de_item rfl (de_v 0) de_int) (de_tup (da_cons de_str (da_cons de_str da_nil)))) (dss_one (ds_ret (de_isN (de_has h_L_broken rfl rfl rfl (hr.mono (by omega)) rfl (takes_of rfl rfl rfl rfl) (da_cons (de_v 0) (da_cons (de_v 1) da_nil))) de_non))) dss_nil)
    (dss_cons (ds_setLc (i := 2) [("_law_part", 3)] rfl sc_L_keeps.nd rfl rfl rfl (di_seq rfl (de_slice rfl (de_v 0) (do_some de_int) do_none)) (by show BlkOk ["_law_rule_here", "_law_row_here", "_law_kept", "_law_part"] (defScope s_L_keeps) _ _; exact ⟨rfl, by decide +kernel, by decide +kernel, by decide +kernel, by decide +kernel⟩) (by decide) (fun _ _ _ _ _ => (dgv_name (i := 3) sc_L_keeps.nd rfl (by first | exact Or.inl rfl | exact Or.inr rfl))) (fun _ _ _ _ _ => dts_nil) (fun _ _ _ _ _ => (de_has hself rfl rfl rfl (hr.mono (by omega)) rfl takes0 (da_cons (de_v 3) (da_cons (de_v 1) da_nil)))))
    (dss_cons (ds_if (dt_eq rfl hr.units (de_item rfl (de_v 0) de_int) de_str) (dss_one (ds_ret (de_not (de_item rfl (de_v 2) de_int)))) dss_nil)
    (dss_one (ds_ret (de_if (dt_eq rfl hr.units (de_item rfl (de_v 0) de_int) de_str) (de_and (de_item rfl (de_v 2) de_int) (de_one (de_item rfl (de_v 2) de_int))) (de_or (de_item rfl (de_v 2) de_int) (de_one (de_item rfl (de_v 2) de_int)))))))))⟩
theorem rec_L_keeps (Z : Fx w K mg T) (F : Fun K "_law_keeps" "_law_keeps" s_L_keeps f fd) (hf : mg "_law_keeps" = some (.ref f)) (h_L_broken : Has P w base ⟨K, mg, T⟩ "_law_broken" ["_law_rule_here", "_law_row_here"] 4 L_broken) : ∀ n : Nat, Has P w base ⟨K, mg, T⟩ "_law_keeps" ["_law_rule_here", "_law_row_here"] (4 + n) (L_keeps n)
  | 0 => Has.none hf F.kp (F.binds (fun _ _ _ _ _ _ us hl => match us, hl with | [_, _], _ => rfl))
  | n + 1 => ok_L_keeps (Nat.le_add_right _ _) Z F hf (rec_L_keeps Z F hf h_L_broken n) h_L_broken
abbrev s_L_row : Stmt := top 58
theorem sc_L_row : FnScope ["_law_source_here", "_law_signs", "_law_row_here", "_law_now", "_law_k"] ["_law_source_here", "_law_signs"] (defScope s_L_row) := ⟨rfl, rfl, rfl, by decide +kernel, rfl, by decide +kernel, by decide +kernel⟩
theorem ok_L_row (Z : Fx w K mg T) (F : Fun K "_law_row" "_law_row" s_L_row f fd) (hf : mg "_law_row" = some (.ref f)) (h_L_draw : Has P w base ⟨K, mg, T⟩ "_law_draw" ["_law_source_here", "_law_many"] 1 L_draw) (h_L_gap : Has P w base ⟨K, mg, T⟩ "_law_gap" ["_law_source_here"] 3 L_gap) (h_L_plus : Has P w base ⟨K, mg, T⟩ "_law_plus" ["_law_one", "_law_other"] 2 L_plus) (h_L_pick : Has P w base ⟨K, mg, T⟩ "_law_pick" ["_law_source_here", "_law_things"] 2 L_pick) : Has P w base ⟨K, mg, T⟩ "_law_row" ["_law_source_here", "_law_signs"] 4 L_row :=
  ⟨f, fd, hf, F.kp, F.binds (fun _ _ _ _ _ _ us hl => match us, hl with | [_, _], _ => rfl), fn_ok F sc_L_row fun cdv A outer s H E hr =>
    (dss_cons (ds_par (k := 2) (j := 3) rfl sc_L_row.nd rfl rfl (by decide) rfl rfl (da_cons (de_cel da_nil) (da_cons (de_tup (da_cons de_int (da_cons de_int da_nil))) da_nil)) rfl)
    (dss_cons (ds_for (passes_of rfl) rfl (di_range1 rfl Z.z_range (da_cons (de_has h_L_draw rfl rfl rfl (hr.mono (by omega)) rfl (takes_of rfl rfl rfl rfl) (da_cons (de_v 0) (da_cons de_int da_nil))) da_nil)) (dg_name (i := 4) sc_L_row.nd rfl (by first | exact Or.inl rfl | exact Or.inr rfl)) (dss_cons (ds_asg (de_has h_L_plus rfl rfl rfl (hr.mono (by omega)) rfl (takes_of rfl rfl rfl rfl) (da_cons (de_v 3) (da_cons (de_has h_L_gap rfl rfl rfl (hr.mono (by omega)) rfl (takes_of rfl rfl rfl rfl) (da_cons (de_v 0) da_nil)) da_nil))) (dg_name (i := 3) sc_L_row.nd rfl (by first | exact Or.inl rfl | exact Or.inr rfl)))
    (dss_one (ds_exp (de_append rfl (de_v 2) (da_cons (de_tup (da_cons (de_has h_L_pick rfl rfl rfl (hr.mono (by omega)) rfl (takes_of rfl rfl rfl rfl) (da_cons (de_v 0) (da_cons (de_v 1) da_nil))) (da_cons (de_v 3) da_nil))) da_nil))))))
    (dss_one (ds_ret (de_fz (de_v 2))))))⟩
abbrev s_L_bad_row : Stmt := top 59
theorem sc_L_bad_row : FnScope ["_law_source_here", "_law_row_here", "_law_at", "_law_good", "_law_odd"] ["_law_source_here", "_law_row_here"] (defScope s_L_bad_row) := ⟨rfl, rfl, rfl, by decide +kernel, rfl, by decide +kernel, by decide +kernel⟩
theorem ok_L_bad_row (Z : Fx w K mg T) (F : Fun K "_law_bad_row" "_law_bad_row" s_L_bad_row f fd) (hf : mg "_law_bad_row" = some (.ref f)) (h_L_draw : Has P w base ⟨K, mg, T⟩ "_law_draw" ["_law_source_here", "_law_many"] 1 L_draw) (h_L_pick : Has P w base ⟨K, mg, T⟩ "_law_pick" ["_law_source_here", "_law_things"] 2 L_pick) (h_L_lean : Has P w base ⟨K, mg, T⟩ "_law_lean" ["_law_top", "_law_bottom"] 1 L_lean) : Has P w base ⟨K, mg, T⟩ "_law_bad_row" ["_law_source_here", "_law_row_here"] 3 L_bad_row :=
  ⟨f, fd, hf, F.kp, F.binds (fun _ _ _ _ _ _ us hl => match us, hl with | [_, _], _ => rfl), fn_ok F sc_L_bad_row fun cdv A outer s H E hr =>
    (dss_cons (ds_if (dt_eq rfl hr.units (de_has h_L_draw rfl rfl rfl (hr.mono (by omega)) rfl (takes_of rfl rfl rfl rfl) (da_cons (de_v 0) (da_cons de_int da_nil))) de_int) (dss_one (ds_ret (de_tup (da_cons (de_has h_L_pick rfl rfl rfl (hr.mono (by omega)) rfl (takes_of rfl rfl rfl rfl) (da_cons (de_v 0) (da_cons (de_lst (da_cons de_non (da_cons de_int (da_cons de_str (da_cons de_dic (da_cons de_bl (da_cons de_str da_nil))))))) da_nil))) (da_cons de_int da_nil))))) dss_nil)
    (dss_cons (ds_par (k := 2) (j := 3) rfl sc_L_bad_row.nd rfl rfl (by decide) rfl rfl (da_cons (de_has h_L_draw rfl rfl rfl (hr.mono (by omega)) rfl (takes_of rfl rfl rfl rfl) (da_cons (de_v 0) (da_cons (de_add rfl (de_len rfl rfl Z.z_len (da_cons (de_v 1) da_nil)) de_int) da_nil))) (da_cons (de_if (dt_ne rfl hr.units (de_v 1) (de_lst da_nil)) (de_item rfl (de_item rfl (de_v 1) (de_neg de_int)) de_int) (de_tup (da_cons de_int (da_cons de_int da_nil)))) da_nil)) rfl)
    (dss_cons (ds_asg (de_cel (da_cons de_non (da_cons de_int (da_cons (de_tup (da_cons de_str da_nil)) (da_cons (de_tup (da_cons de_str (da_cons (de_v 3) (da_cons (de_v 3) da_nil)))) (da_cons (de_tup (da_cons de_str (da_cons (de_v 3) da_nil))) (da_cons (de_tup (da_cons de_int (da_cons (de_v 3) da_nil))) (da_cons (de_tup (da_cons de_non (da_cons (de_v 3) da_nil))) (da_cons (de_tup (da_cons de_str (da_cons de_int da_nil))) (da_cons (de_tup (da_cons de_str (da_cons (de_tup (da_cons de_int (da_cons de_int da_nil))) da_nil))) da_nil)))))))))) (dg_name (i := 4) sc_L_bad_row.nd rfl (by first | exact Or.inl rfl | exact Or.inr rfl)))
    (dss_cons (ds_asg (de_addC (de_v 4) (de_lst (da_cons (de_tup (da_cons de_str (da_cons (de_tup (da_cons de_int da_nil)) da_nil))) (da_cons (de_tup (da_cons de_str (da_cons (de_tup (da_cons (de_neg de_int) (da_cons de_int da_nil))) da_nil))) (da_cons (de_tup (da_cons de_str (da_cons (de_tup (da_cons de_bl (da_cons de_int da_nil))) da_nil))) (da_cons (de_tup (da_cons de_str (da_cons (de_lst (da_cons de_int (da_cons de_str da_nil))) da_nil))) (da_cons (de_lst (da_cons de_str (da_cons (de_v 3) da_nil))) (da_cons (de_tup (da_cons de_str (da_cons (de_v 3) da_nil))) da_nil)))))))) (dg_name (i := 4) sc_L_bad_row.nd rfl (by first | exact Or.inl rfl | exact Or.inr rfl)))
    (dss_cons (ds_if (dt_w (dw_and (dt_gt (de_v 2) de_int) (dw_and1 (dt_ne rfl hr.units (de_item rfl (de_item rfl (de_v 1) (de_sub (de_v 2) de_int)) de_int) (de_tup (da_cons de_int (da_cons de_int da_nil))))))) (dss_one (ds_exp (de_append rfl (de_v 4) (da_cons (de_tup (da_cons de_str (da_cons (de_has h_L_lean rfl rfl rfl (hr.mono (by omega)) rfl (takes_of rfl rfl rfl rfl) (da_cons (de_item rfl (de_item rfl (de_item rfl (de_v 1) (de_sub (de_v 2) de_int)) de_int) de_int) (da_cons (de_add rfl (de_item rfl (de_item rfl (de_item rfl (de_v 1) (de_sub (de_v 2) de_int)) de_int) de_int) de_int) da_nil))) da_nil))) da_nil)))) dss_nil)
    (dss_one (ds_ret (de_tup (da_cons (de_add rfl (de_add rfl (de_slice rfl (de_v 1) do_none (do_some (de_v 2))) (de_lst (da_cons (de_has h_L_pick rfl rfl rfl (hr.mono (by omega)) rfl (takes_of rfl rfl rfl rfl) (da_cons (de_v 0) (da_cons (de_fz (de_v 4)) da_nil))) da_nil))) (de_slice rfl (de_v 1) (do_some (de_v 2)) do_none)) (da_cons (de_v 2) da_nil))))))))))⟩
end
end R
end DL

set_option Elab.async false
set_option linter.all false
set_option maxRecDepth 100000
set_option maxHeartbeats 4000000
namespace DL
open PySem PySem.Spec PyProof.Rows L2
namespace R
abbrev s_L_tried : Stmt := top 57
theorem sc_L_tried : FnScope ["_law_job", "_law_found", "e"] ["_law_job"] (defScope s_L_tried) := ⟨rfl, rfl, rfl, by decide +kernel, rfl, by decide +kernel, by decide +kernel⟩
def knownE : List Str := ["BadRow", "NotPlain"]
def hsT : List Hd := [("BadRow", 2, .asg 1 "row" "index"), ("NotPlain", 2, .asg 1 "plain" "rule")]
noncomputable def mT (d : D) (job : Sto → Out D) : SM := sSeq (sAsg (eTup (aCons (eC (.str "told")) (aCons (eC .non) aNil))) (gN 1)) (sSeq (sTry knownE hsT (sAsg (eTup (aCons (eC (.str "told")) (aCons (eJob d job) aNil))) (gN 1))) (sRet (eV 1)))
def handlersOf : Stmt → List ExceptHandler
  | .Try _ hs _ _ _ => hs
  | _ => []
/-- what _law_tried makes of a job -/
def triedO (job : Sto → Out D) (st : Sto) : Out D := match job st with
  | .ok x st' => .ok (.tup [.str "told", x]) st'
  | .err c fs st' => if c = "BadRow" then (match fs.lookup ("index" : Str) with
      | some d => .ok (.tup [.str "row", d]) st'
      | none => .bad) else if c = "NotPlain" then (match fs.lookup ("rule" : Str) with
      | some d => .ok (.tup [.str "plain", d]) st'
      | none => .bad) else .bad
  | .bad => .bad
theorem triedO_calm (job : Sto → Out D) (st : Sto) : Calm (triedO job st) := by
  unfold triedO
  split
  · trivial
  · split
    · split <;> trivial
    · split
      · split <;> trivial
      · trivial
  · trivial
theorem mT_sem (d : D) (job : Sto → Out D) (st : Sto) : outOf (mT d job (startE 3 [d]) st) = triedO job st := by
  have e1 : mT d job (startE 3 [d]) st = (sSeq (sTry knownE hsT (sAsg (eTup (aCons (eC (.str "told")) (aCons (eJob d job) aNil))) (gN 1))) (sRet (eV 1))) [some d, some (.tup [.str "told", .non]), none] st := rfl
  rw [e1]
  have e2 : eJob d job [some d, some (.tup [.str "told", .non]), none] st = job st := by simp [eJob]
  unfold sSeq sTry sAsg eTup aCons aNil eC
  simp only [bnd_ok, e2]
  unfold triedO
  cases q : job st with
  | ok x st' => rfl
  | bad => rfl
  | err c fs st' =>
    simp only [bnd_err, bndS]
    by_cases h1 : c = "BadRow"
    · subst h1
      rw [if_pos (by decide), if_pos rfl]
      unfold hsT runH
      rw [if_pos rfl]
      cases fs.lookup ("index" : Str) <;> rfl
    · by_cases h2 : c = "NotPlain"
      · subst h2
        rw [if_pos (by decide), if_neg (by decide), if_pos rfl]
        unfold hsT runH
        rw [if_neg (by decide)]
        unfold runH
        rw [if_pos rfl]
        cases fs.lookup ("rule" : Str) <;> rfl
      · rw [if_neg h1, if_neg h2, if_neg (by simp [knownE, h1, h2])]
        rfl
section
variable {X : Cx} {T : List (Addr × Str)} {k : Nat} {g : Addr} {cdg : Value}
theorem gives_tried (Z : Fx X.w X.K X.mg T) (ex : ExmK X.K X.mg knownE) : GivesD X ⟨X.K, X.mg, T⟩ k ["_law_job", "_law_found", "e"] "_law_tried" (defScope s_L_tried) g cdg (defBody s_L_tried) "_law_job" mT := by
  intro s H d job hr hjob
  obtain ⟨C1, f1, fd1, E1⟩ := Z.e_BadRow X.base X.prog X.w
  obtain ⟨C2, f2, fd2, E2⟩ := Z.e_NotPlain X.base X.prog X.w
  have hd : ∃ l, HdOk (cxOf CX0 X.prog X.w X.K X.mg X.base ["_law_job", "_law_found", "e"] "_law_tried" (defScope s_L_tried) g cdg X.A X.stack s H E0).nox knownE (handlersOf ((defBody s_L_tried).getD 1 (.Pass ⟨0, 0, 0, 0⟩))) hsT l :=
    ⟨_, .cons (i := 2) (by decide) E1.g (cl_asg (i := 2) (y := 1) sc_L_tried.nd rfl E1.g E1.X E1.no rfl rfl rfl rfl (cl_asg (i := 2) (y := 1) sc_L_tried.nd rfl E2.g E2.X E2.no rfl rfl rfl rfl .nil)) (by show 2 < 3; omega) (fun y k f h => by cases h; decide)
      (.cons (i := 2) (by decide) E2.g (cl_asg (i := 2) (y := 1) sc_L_tried.nd rfl E2.g E2.X E2.no rfl rfl rfl rfl .nil) (by show 2 < 3; omega) (fun y k f h => by cases h; decide) .nil)⟩
  obtain ⟨l, hd⟩ := hd
  refine dss_cons (ds_asg (de_tup (da_cons de_str (da_cons de_non da_nil))) (dg_name (i := 1) sc_L_tried.nd rfl (Or.inl rfl))) (dss_cons (ds_try (known := knownE) (hs := hsT) (l := l) rfl rfl ex rfl rfl sc_L_tried.nd takes0 (fun W' pn xe tk po => ?_) hd ?_) (dss_one (ds_ret (de_v 1))))
  · exact dss_one (ds_asg (de_tup (da_cons de_str (da_cons (hjob W' pn xe _ _ tk) da_nil))) (dg_name (i := 1) sc_L_tried.nd rfl (Or.inl rfl)))
  · intro env st c fs env' st' h hl
    unfold sAsg bndS at h
    split at h
    · cases h
    · cases h; exact hl
    · cases h
end
end R
end DL

set_option Elab.async false
set_option linter.all false
set_option maxRecDepth 100000
set_option maxHeartbeats 4000000
namespace DL
open PySem PySem.Spec PyProof.Rows L2
namespace R
section
variable {P : Program} {w : World} {K : PySem.W.Frag} {mg : Str → Option Value} {base : Heap} {T : List (Addr × Str)} {f : Addr} {fd : FuncData}
def m_law : SM := (sSeq (sAsg (eCall 1 L_source (aCons (eV 0) aNil)) (gN 1))
    (sSeq (sFor (iR1 (aCons (eC (.int 6)) aNil)) (gN 2) (sSeq (sAsg (eCall 2 L_words (aCons (eV 1) (aCons (eOp oAdd (eC (.int 2)) (eCall 2 L_draw (aCons (eV 1) (aCons (eC (.int 2)) aNil)))) aNil))) (gN 3))
    (sSeq (sPar 4 5 (aCons (eCall 5 (L_rule 8) (aCons (eV 1) (aCons (eV 3) (aCons (eC (.int 3)) (aCons (eC (.int 3)) (aCons (eC (.int 3)) aNil)))))) (aCons (eCall 2 L_row (aCons (eV 1) (aCons (eV 3) aNil))) aNil)))
    (sSeq (sAsg (eCall 2 (L_shown_rule 8) (aCons (eV 1) (aCons (eV 4) aNil))) (gN 6))
    (sSeq (sIf (tOf (eOp oNe (eCall 2 keeps (aCons (eV 6) (aCons (eCall 2 L_shown_times (aCons (eV 1) (aCons (eV 5) aNil))) aNil))) (eCall 2 (L_keeps 8) (aCons (eV 4) (aCons (eV 5) aNil))))) (sRet (eC (.bl false))) sNx)
    (sSeq (sAsg (eCall 3 L_plain (aCons (eV 1) (aCons (eV 3) (aCons (eC (.int 3)) aNil)))) (gN 7))
    (sSeq (sIf (tOf (eOp oNe (eCall 2 first_broken (aCons (eCall 2 (L_shown_rule 8) (aCons (eV 1) (aCons (eV 7) aNil))) (aCons (eCall 2 L_shown_times (aCons (eV 1) (aCons (eV 5) aNil))) aNil))) (eCall 2 L_broken (aCons (eV 7) (aCons (eV 5) aNil))))) (sRet (eC (.bl false))) sNx)
    (sSeq (sIf (bOr (tOf (eOp oNe (eCall 2 keeps (aCons (eV 7) (aCons (eV 5) aNil))) (eOp oIsN (eCall 2 L_broken (aCons (eV 7) (aCons (eV 5) aNil))) (eC .non)))) (tOf (eOp oEq (eCall 2 keeps (aCons (eTup (aCons (eC (.str "not")) (aCons (eV 7) aNil))) (aCons (eV 5) aNil))) (eCall 2 keeps (aCons (eV 7) (aCons (eV 5) aNil)))))) (sRet (eC (.bl false))) sNx)
    (sSeq (sAsg (eCall 2 L_bad_row (aCons (eV 1) (aCons (eV 5) aNil))) (gT 2 (gsCons (gN 8) (gsCons (gN 9) gsNil))))
    (sSeq (sIf (tOf (eOp oNe (eLam triedO (eCall 2 keeps (aCons (eV 6) (aCons (eV 8) aNil)))) (eTup (aCons (eC (.str "row")) (aCons (eV 9) aNil))))) (sRet (eC (.bl false))) sNx)
    (sSeq (sPar 10 11 (aCons (eLam triedO (eCall 2 first_broken (aCons (eV 6) (aCons (eV 8) aNil)))) (aCons (eTup (aCons (eC (.str "row")) (aCons (eV 9) aNil))) aNil)))
    (sSeq (sIf (tOf (eOp (inO true) (eOp ixO (eV 4) (eC (.int 0))) (eTup (aCons (eC (.str "since")) (aCons (eC (.str "soon")) aNil))))) (sAsg (eTup (aCons (eC (.str "plain")) (aCons (eV 6) aNil))) (gN 11)) sNx)
    (sIf (tOf (eOp oNe (eV 10) (eV 11))) (sRet (eC (.bl false))) sNx)))))))))))))
    (sRet (eC (.bl true)))))
def law : List D → Sto → Out D := runM 12 m_law
abbrev s_law : Stmt := top 60
theorem sc_law : FnScope ["_law_script", "_law_source_here", "_law_turn", "_law_signs", "_law_rule_here", "_law_row_here", "_law_shown", "_law_plain_here", "_law_bad", "_law_index", "_law_found", "_law_due"] ["_law_script"] (defScope s_law) := ⟨rfl, rfl, rfl, by decide +kernel, rfl, by decide +kernel, by decide +kernel⟩
theorem ok_law {g c Pt : Addr} {gd : FuncData} {oc kV doc pm ct : Value} {an od : Option Addr} {osl : Array (Option Value)} (Z : Fx w K mg T) (hmT : (Pt, ("law" : Str) ++ ".<locals>." ++ "<lambda>") ∈ T) (hu : ∀ p ∈ T, p.1 = Pt → p.2 = ("law" : Str) ++ ".<locals>." ++ "<lambda>") (TB : LamX.TabB base mg c Pt) (FT : Fun K "_law_tried" "_law_tried" s_L_tried g gd) (hgT : mg "_law_tried" = some (.ref g)) (ex : ExmK K mg knownE) (lk : K.lookup f = some ⟨oc, od, .func (PySem.W.fnOf "law" "law" (defArgs s_law) (defBody s_law) (defScope s_law) .none kV doc pm an (.ref c) ct), osl⟩) (hcd : PySem.W.codeIn K (.ref c) "law" = true) (h_L_source : Has P w base ⟨K, mg, T⟩ "_law_source" ["_law_script"] 1 L_source) (h_L_draw : Has P w base ⟨K, mg, T⟩ "_law_draw" ["_law_source_here", "_law_many"] 1 L_draw) (h_L_words : Has P w base ⟨K, mg, T⟩ "_law_words" ["_law_source_here", "_law_many"] 3 L_words) (h_L_rule : Has P w base ⟨K, mg, T⟩ "_law_rule" ["_law_source_here", "_law_signs", "_law_most", "_law_many", "_law_deep"] 11 (L_rule 8)) (h_L_row : Has P w base ⟨K, mg, T⟩ "_law_row" ["_law_source_here", "_law_signs"] 4 L_row) (h_L_shown_rule : Has P w base ⟨K, mg, T⟩ "_law_shown_rule" ["_law_source_here", "_law_rule_here"] 10 (L_shown_rule 8)) (h_L_shown_times : Has P w base ⟨K, mg, T⟩ "_law_shown_times" ["_law_source_here", "_law_row_here"] 3 L_shown_times) (h_keeps : Has P w base ⟨K, mg, T⟩ "keeps" ["rule", "row"] 14 keeps) (h_L_keeps : Has P w base ⟨K, mg, T⟩ "_law_keeps" ["_law_rule_here", "_law_row_here"] 12 (L_keeps 8)) (h_L_plain : Has P w base ⟨K, mg, T⟩ "_law_plain" ["_law_source_here", "_law_signs", "_law_most"] 3 L_plain) (h_first_broken : Has P w base ⟨K, mg, T⟩ "first_broken" ["rule", "row"] 13 first_broken) (h_L_broken : Has P w base ⟨K, mg, T⟩ "_law_broken" ["_law_rule_here", "_law_row_here"] 4 L_broken) (h_L_bad_row : Has P w base ⟨K, mg, T⟩ "_law_bad_row" ["_law_source_here", "_law_row_here"] 3 L_bad_row) :
    FnOk P w K mg base (L2.CX P w) 17 f (PySem.W.fnOf "law" "law" (defArgs s_law) (defBody s_law) (defScope s_law) .none kV doc pm an (.ref c) ct) ["_law_script"] (spM ⟨K, mg, T⟩ 1 law) := by
  have FTb := FT.binds (ps := ["_law_job"]) (fun _ _ _ _ _ _ us hl => match us, hl with | [_], _ => rfl)
  obtain ⟨_, _, _, _, _, _, _, _, _, rfl, FTlk, FTcd⟩ := FT.ex
  refine fn_of lk hcd sc_law (fun vs H Q E h => h.1) fun A outer s H vs Q E hr h => ⟨_, (?_ : PSs _ _ (dS ⟨K, mg, T⟩ (fun c d _ H' => E c d H') m_law)), ?_⟩
  · exact
    (dss_cons (ds_asg (de_has h_L_source rfl rfl rfl (hr.mono (by omega)) rfl (takes_of rfl rfl rfl rfl) (da_cons (de_v 0) da_nil)) (dg_name (i := 1) sc_law.nd rfl (by first | exact Or.inl rfl | exact Or.inr rfl)))
    (dss_cons (ds_for (passes_of rfl) rfl (di_range1 rfl Z.z_range (da_cons de_int da_nil)) (dg_name (i := 2) sc_law.nd rfl (by first | exact Or.inl rfl | exact Or.inr rfl)) (dss_cons (ds_asg (de_has h_L_words rfl rfl rfl (hr.mono (by omega)) rfl (takes_of rfl rfl rfl rfl) (da_cons (de_v 1) (da_cons (de_add rfl de_int (de_has h_L_draw rfl rfl rfl (hr.mono (by omega)) rfl (takes_of rfl rfl rfl rfl) (da_cons (de_v 1) (da_cons de_int da_nil)))) da_nil))) (dg_name (i := 3) sc_law.nd rfl (by first | exact Or.inl rfl | exact Or.inr rfl)))
    (dss_cons (ds_par (k := 4) (j := 5) rfl sc_law.nd rfl rfl (by decide) rfl rfl (da_cons (de_has h_L_rule rfl rfl rfl (hr.mono (by omega)) rfl (takes_of rfl rfl rfl rfl) (da_cons (de_v 1) (da_cons (de_v 3) (da_cons de_int (da_cons de_int (da_cons de_int da_nil)))))) (da_cons (de_has h_L_row rfl rfl rfl (hr.mono (by omega)) rfl (takes_of rfl rfl rfl rfl) (da_cons (de_v 1) (da_cons (de_v 3) da_nil))) da_nil)) rfl)
    (dss_cons (ds_asg (de_has h_L_shown_rule rfl rfl rfl (hr.mono (by omega)) rfl (takes_of rfl rfl rfl rfl) (da_cons (de_v 1) (da_cons (de_v 4) da_nil))) (dg_name (i := 6) sc_law.nd rfl (by first | exact Or.inl rfl | exact Or.inr rfl)))
    (dss_cons (ds_if (dt_ne rfl hr.units (de_has h_keeps rfl rfl rfl (hr.mono (by omega)) rfl (takes_of rfl rfl rfl rfl) (da_cons (de_v 6) (da_cons (de_has h_L_shown_times rfl rfl rfl (hr.mono (by omega)) rfl (takes_of rfl rfl rfl rfl) (da_cons (de_v 1) (da_cons (de_v 5) da_nil))) da_nil))) (de_has h_L_keeps rfl rfl rfl (hr.mono (by omega)) rfl (takes_of rfl rfl rfl rfl) (da_cons (de_v 4) (da_cons (de_v 5) da_nil)))) (dss_one (ds_ret de_bl)) dss_nil)
    (dss_cons (ds_asg (de_has h_L_plain rfl rfl rfl (hr.mono (by omega)) rfl (takes_of rfl rfl rfl rfl) (da_cons (de_v 1) (da_cons (de_v 3) (da_cons de_int da_nil)))) (dg_name (i := 7) sc_law.nd rfl (by first | exact Or.inl rfl | exact Or.inr rfl)))
    (dss_cons (ds_if (dt_ne rfl hr.units (de_has h_first_broken rfl rfl rfl (hr.mono (by omega)) rfl (takes_of rfl rfl rfl rfl) (da_cons (de_has h_L_shown_rule rfl rfl rfl (hr.mono (by omega)) rfl (takes_of rfl rfl rfl rfl) (da_cons (de_v 1) (da_cons (de_v 7) da_nil))) (da_cons (de_has h_L_shown_times rfl rfl rfl (hr.mono (by omega)) rfl (takes_of rfl rfl rfl rfl) (da_cons (de_v 1) (da_cons (de_v 5) da_nil))) da_nil))) (de_has h_L_broken rfl rfl rfl (hr.mono (by omega)) rfl (takes_of rfl rfl rfl rfl) (da_cons (de_v 7) (da_cons (de_v 5) da_nil)))) (dss_one (ds_ret de_bl)) dss_nil)
    (dss_cons (ds_if (dt_w (dw_or (dt_ne rfl hr.units (de_has h_keeps rfl rfl rfl (hr.mono (by omega)) rfl (takes_of rfl rfl rfl rfl) (da_cons (de_v 7) (da_cons (de_v 5) da_nil))) (de_isN (de_has h_L_broken rfl rfl rfl (hr.mono (by omega)) rfl (takes_of rfl rfl rfl rfl) (da_cons (de_v 7) (da_cons (de_v 5) da_nil))) de_non)) (dw_or1 (dt_eq rfl hr.units (de_has h_keeps rfl rfl rfl (hr.mono (by omega)) rfl (takes_of rfl rfl rfl rfl) (da_cons (de_tup (da_cons de_str (da_cons (de_v 7) da_nil))) (da_cons (de_v 5) da_nil))) (de_has h_keeps rfl rfl rfl (hr.mono (by omega)) rfl (takes_of rfl rfl rfl rfl) (da_cons (de_v 7) (da_cons (de_v 5) da_nil))))))) (dss_one (ds_ret de_bl)) dss_nil)
    (dss_cons (ds_asg (de_has h_L_bad_row rfl rfl rfl (hr.mono (by omega)) rfl (takes_of rfl rfl rfl rfl) (da_cons (de_v 1) (da_cons (de_v 5) da_nil))) (dg_tup rfl rfl (dgs_cons (dgv_name (i := 8) sc_law.nd rfl (by first | exact Or.inl rfl | exact Or.inr rfl)) (dgs_cons (dgv_name (i := 9) sc_law.nd rfl (by first | exact Or.inl rfl | exact Or.inr rfl)) dgs_nil))))
    (dss_cons (ds_if (dt_ne rfl hr.units (de_lam (x := "_law_tried") (a := "_law_job") (k := 14) rfl hgT FT.kp FTlk FTcd FTb sc_L_tried rfl (Or.inl rfl) (gives_tried Z ex) (fun d job st => mT_sem d job st) triedO_calm TB rfl hmT hu (hr.mono (by omega)) (by show LamX.LamS (defScope s_law) _; exact LamX.lamS_by (by decide +kernel)) rfl (fun _ _ _ _ _ => rfl) (fun A outer s H E f c1 hrL => (de_has h_keeps rfl rfl rfl (hrL.mono (by omega)) rfl (takes_of rfl rfl rfl rfl) (da_cons (de_v 6) (da_cons (de_v 8) da_nil))))) (de_tup (da_cons de_str (da_cons (de_v 9) da_nil)))) (dss_one (ds_ret de_bl)) dss_nil)
    (dss_cons (ds_par (k := 10) (j := 11) rfl sc_law.nd rfl rfl (by decide) rfl rfl (da_cons (de_lam (x := "_law_tried") (a := "_law_job") (k := 13) rfl hgT FT.kp FTlk FTcd FTb sc_L_tried rfl (Or.inl rfl) (gives_tried Z ex) (fun d job st => mT_sem d job st) triedO_calm TB rfl hmT hu (hr.mono (by omega)) (by show LamX.LamS (defScope s_law) _; exact LamX.lamS_by (by decide +kernel)) rfl (fun _ _ _ _ _ => rfl) (fun A outer s H E f c1 hrL => (de_has h_first_broken rfl rfl rfl (hrL.mono (by omega)) rfl (takes_of rfl rfl rfl rfl) (da_cons (de_v 6) (da_cons (de_v 8) da_nil))))) (da_cons (de_tup (da_cons de_str (da_cons (de_v 9) da_nil))) da_nil)) rfl)
    (dss_cons (ds_if (dt_nin rfl (de_item rfl (de_v 4) de_int) (de_tup (da_cons de_str (da_cons de_str da_nil)))) (dss_one (ds_asg (de_tup (da_cons de_str (da_cons (de_v 6) da_nil))) (dg_name (i := 11) sc_law.nd rfl (by first | exact Or.inl rfl | exact Or.inr rfl)))) dss_nil)
    (dss_one (ds_if (dt_ne rfl hr.units (de_v 10) (de_v 11)) (dss_one (ds_ret de_bl)) dss_nil))))))))))))))
    (dss_one (ds_ret de_bl))))
  · obtain ⟨_, w1, ds, st, rs, rv, h⟩ := h
    exact ⟨w1, _, st, rs, renv_start rv, fit_run h⟩
end
end R
end DL

set_option Elab.async false
set_option linter.all false
set_option maxRecDepth 100000
set_option maxHeartbeats 4000000
namespace DL
open PySem PySem.Spec PyProof.Rows L2
namespace R
def inCls : Stmt → Nat → Stmt
  | .ClassDef (body := b) .., i => b.getD i (.Pass ⟨0, 0, 0, 0⟩)
  | s, _ => s
theorem the_law {l : PySem.W.OpenLaw} {w : World} {K : PySem.W.Frag} {mg : Str → Option Value} {h : Heap} {fa fl c Pt : Addr} {oc kV doc pm ct : Value} {an od : Option Addr} {osl : Array (Option Value)} (X : K.In h) (G : h.Ns mainGlobals mg) (hT8 : h.get? Pt = some (PySem.W.tabObj #[])) (nT : K.lookup Pt = none) (hC : PySem.W.codeHdIn K c Pt = true)
    (Z : Fx w K mg [(Pt, ("law" : Str) ++ ".<locals>." ++ "<lambda>")]) (F_is_integer : FnAt K mg "is_integer" s_is_integer) (F_is_natural : FnAt K mg "is_natural" s_is_natural) (F_is_list : FnAt K mg "is_list" s_is_list) (F_is_name : FnAt K mg "is_name" s_is_name) (F_is_pair : FnAt K mg "is_pair" s_is_pair) (F_is_of : FnAt K mg "is_of" s_is_of) (F_greatest_divisor : FnAt K mg "greatest_divisor" s_greatest_divisor) (F_lowest : FnAt K mg "lowest" s_lowest) (F_whole : FnAt K mg "whole" s_whole) (F_is_frac : FnAt K mg "is_frac" s_is_frac) (F_is_time : FnAt K mg "is_time" s_is_time) (F_frac_of : FnAt K mg "frac_of" s_frac_of) (F_minus : FnAt K mg "minus" s_minus) (F_is_less : FnAt K mg "is_less" s_is_less) (F_is_upto : FnAt K mg "is_upto" s_is_upto) (F_rule_at : FnAt K mg "rule_at" s_rule_at) (F_checked_rule : FnAt K mg "checked_rule" s_checked_rule) (F_checked_timed : FnAt K mg "checked_timed" s_checked_timed) (F_is_so_long : FnAt K mg "is_so_long" s_is_so_long) (F_has_other : FnAt K mg "has_other" s_has_other) (F_broken_at : FnAt K mg "broken_at" s_broken_at) (F_is_kept : FnAt K mg "is_kept" s_is_kept) (F_keeps : FnAt K mg "keeps" s_keeps) (F_check_plain : FnAt K mg "check_plain" s_check_plain) (F_first_broken : FnAt K mg "first_broken" s_first_broken) (F_L_source : FnAt K mg "_law_source" s_L_source) (F_L_draw : FnAt K mg "_law_draw" s_L_draw) (F_L_pick : FnAt K mg "_law_pick" s_L_pick) (F_L_order : FnAt K mg "_law_order" s_L_order) (F_L_words : FnAt K mg "_law_words" s_L_words) (F_L_lean : FnAt K mg "_law_lean" s_L_lean) (F_L_plus : FnAt K mg "_law_plus" s_L_plus) (F_L_minus : FnAt K mg "_law_minus" s_L_minus) (F_L_is_so : FnAt K mg "_law_is_so" s_L_is_so) (F_L_shown_times : FnAt K mg "_law_shown_times" s_L_shown_times) (F_L_gap : FnAt K mg "_law_gap" s_L_gap) (F_L_plain : FnAt K mg "_law_plain" s_L_plain) (F_L_rule : FnAt K mg "_law_rule" s_L_rule) (F_L_shown_rule : FnAt K mg "_law_shown_rule" s_L_shown_rule) (F_L_has_other : FnAt K mg "_law_has_other" s_L_has_other) (F_L_broken : FnAt K mg "_law_broken" s_L_broken) (F_L_keeps : FnAt K mg "_law_keeps" s_L_keeps) (F_L_row : FnAt K mg "_law_row" s_L_row) (F_L_bad_row : FnAt K mg "_law_bad_row" s_L_bad_row) (F_tried : FnAt K mg "_law_tried" s_L_tried) (ex : ExmK K mg knownE)
    (hfa : mg "law" = some (.ref fa)) (al : PySem.W.nsIn K mainGlobals "law" = some (some (.ref fl))) (lk : K.lookup fl = some ⟨oc, od, .func (PySem.W.fnOf "law" "law" (defArgs s_law) (defBody s_law) (defScope s_law) .none kV doc pm an (.ref c) ct), osl⟩) (hcd : PySem.W.codeIn K (.ref c) "law" = true)
    (hm : ∀ ns : List Int, ns.length ≤ 63 → (∀ z ∈ ns, Builtin.Int.intBits z ≤ 1048576) → ∃ st, law [.scr ns] [] = .ok (.bl true) st) :
    LamX.LawAtS l w K (L2.CX l.prog w) 17 63 "_law_script" mg fa h := by
  have e := hfa.symm.trans (PySem.W.mg_of X G al)
  cases e
  obtain ⟨g, gd, hgT, FT⟩ := F_tried
  refine law_at (fd := PySem.W.fnOf "law" "law" (defArgs s_law) (defBody s_law) (defScope s_law) .none kV doc pm an (.ref c) ct) (cs := [(c, Pt)]) (T := [(Pt, ("law" : Str) ++ ".<locals>." ++ "<lambda>")]) (m := law) (fun p hp => ?_) (fun p hp => ?_) (fun p hp => ?_) (fun s u => .of_eq rfl) (fun p hp => ?_) hm fun base hin hns htab => ?_
  · rw [List.mem_singleton.mp hp]; exact hT8
  · rw [List.mem_singleton.mp hp]; exact nT
  · rw [List.mem_singleton.mp hp]; exact PySem.W.codeHd_of_K X hC
  · rw [List.mem_singleton.mp hp]; exact List.mem_singleton.mpr rfl
  have h_is_integer : Has l.prog w base ⟨K, mg, [(Pt, ("law" : Str) ++ ".<locals>." ++ "<lambda>")]⟩ "is_integer" ["thing"] 1 is_integer := by
    obtain ⟨_, _, hf, F⟩ := F_is_integer
    exact ok_is_integer Z F hf 
  have h_is_natural : Has l.prog w base ⟨K, mg, [(Pt, ("law" : Str) ++ ".<locals>." ++ "<lambda>")]⟩ "is_natural" ["thing"] 2 is_natural := by
    obtain ⟨_, _, hf, F⟩ := F_is_natural
    exact ok_is_natural Z F hf h_is_integer
  have h_is_list : Has l.prog w base ⟨K, mg, [(Pt, ("law" : Str) ++ ".<locals>." ++ "<lambda>")]⟩ "is_list" ["thing"] 1 is_list := by
    obtain ⟨_, _, hf, F⟩ := F_is_list
    exact ok_is_list Z F hf 
  have h_is_name : Has l.prog w base ⟨K, mg, [(Pt, ("law" : Str) ++ ".<locals>." ++ "<lambda>")]⟩ "is_name" ["thing"] 1 is_name := by
    obtain ⟨_, _, hf, F⟩ := F_is_name
    exact ok_is_name Z F hf 
  have h_is_pair : Has l.prog w base ⟨K, mg, [(Pt, ("law" : Str) ++ ".<locals>." ++ "<lambda>")]⟩ "is_pair" ["thing"] 2 is_pair := by
    obtain ⟨_, _, hf, F⟩ := F_is_pair
    exact ok_is_pair Z F hf h_is_list
  have h_is_of : Has l.prog w base ⟨K, mg, [(Pt, ("law" : Str) ++ ".<locals>." ++ "<lambda>")]⟩ "is_of" ["thing", "words"] 1 is_of := by
    obtain ⟨_, _, hf, F⟩ := F_is_of
    exact ok_is_of Z F hf 
  have h_greatest_divisor : Has l.prog w base ⟨K, mg, [(Pt, ("law" : Str) ++ ".<locals>." ++ "<lambda>")]⟩ "greatest_divisor" ["one", "other"] 1 greatest_divisor := by
    obtain ⟨_, _, hf, F⟩ := F_greatest_divisor
    exact ok_greatest_divisor Z F hf 
  have h_lowest : Has l.prog w base ⟨K, mg, [(Pt, ("law" : Str) ++ ".<locals>." ++ "<lambda>")]⟩ "lowest" ["top", "bottom"] 2 lowest := by
    obtain ⟨_, _, hf, F⟩ := F_lowest
    exact ok_lowest Z F hf h_greatest_divisor
  have h_whole : Has l.prog w base ⟨K, mg, [(Pt, ("law" : Str) ++ ".<locals>." ++ "<lambda>")]⟩ "whole" ["number"] 1 whole := by
    obtain ⟨_, _, hf, F⟩ := F_whole
    exact ok_whole Z F hf 
  have h_is_frac : Has l.prog w base ⟨K, mg, [(Pt, ("law" : Str) ++ ".<locals>." ++ "<lambda>")]⟩ "is_frac" ["thing"] 3 is_frac := by
    obtain ⟨_, _, hf, F⟩ := F_is_frac
    exact ok_is_frac Z F hf h_is_pair h_is_integer
  have h_is_time : Has l.prog w base ⟨K, mg, [(Pt, ("law" : Str) ++ ".<locals>." ++ "<lambda>")]⟩ "is_time" ["thing"] 4 is_time := by
    obtain ⟨_, _, hf, F⟩ := F_is_time
    exact ok_is_time Z F hf h_is_frac
  have h_frac_of : Has l.prog w base ⟨K, mg, [(Pt, ("law" : Str) ++ ".<locals>." ++ "<lambda>")]⟩ "frac_of" ["thing"] 3 frac_of := by
    obtain ⟨_, _, hf, F⟩ := F_frac_of
    exact ok_frac_of Z F hf h_lowest
  have h_minus : Has l.prog w base ⟨K, mg, [(Pt, ("law" : Str) ++ ".<locals>." ++ "<lambda>")]⟩ "minus" ["one", "other"] 3 minus := by
    obtain ⟨_, _, hf, F⟩ := F_minus
    exact ok_minus Z F hf h_lowest
  have h_is_less : Has l.prog w base ⟨K, mg, [(Pt, ("law" : Str) ++ ".<locals>." ++ "<lambda>")]⟩ "is_less" ["one", "other"] 1 is_less := by
    obtain ⟨_, _, hf, F⟩ := F_is_less
    exact ok_is_less Z F hf 
  have h_is_upto : Has l.prog w base ⟨K, mg, [(Pt, ("law" : Str) ++ ".<locals>." ++ "<lambda>")]⟩ "is_upto" ["one", "other"] 1 is_upto := by
    obtain ⟨_, _, hf, F⟩ := F_is_upto
    exact ok_is_upto Z F hf 
  have h_rule_at : Has l.prog w base ⟨K, mg, [(Pt, ("law" : Str) ++ ".<locals>." ++ "<lambda>")]⟩ "rule_at" ["thing", "path"] 10 (rule_at 8) := by
    obtain ⟨_, _, hf, F⟩ := F_rule_at
    exact rec_rule_at Z F hf h_is_list h_is_natural h_is_of h_is_name 8
  have h_checked_rule : Has l.prog w base ⟨K, mg, [(Pt, ("law" : Str) ++ ".<locals>." ++ "<lambda>")]⟩ "checked_rule" ["thing"] 11 checked_rule := by
    obtain ⟨_, _, hf, F⟩ := F_checked_rule
    exact ok_checked_rule Z F hf h_rule_at
  have h_checked_timed : Has l.prog w base ⟨K, mg, [(Pt, ("law" : Str) ++ ".<locals>." ++ "<lambda>")]⟩ "checked_timed" ["row"] 5 checked_timed := by
    obtain ⟨_, _, hf, F⟩ := F_checked_timed
    exact ok_checked_timed Z F hf h_is_list h_is_pair h_is_name h_is_time h_frac_of h_is_less
  have h_is_so_long : Has l.prog w base ⟨K, mg, [(Pt, ("law" : Str) ++ ".<locals>." ++ "<lambda>")]⟩ "is_so_long" ["length", "word", "number"] 2 is_so_long := by
    obtain ⟨_, _, hf, F⟩ := F_is_so_long
    exact ok_is_so_long Z F hf h_whole h_is_upto h_is_less
  have h_has_other : Has l.prog w base ⟨K, mg, [(Pt, ("law" : Str) ++ ".<locals>." ++ "<lambda>")]⟩ "has_other" ["rule", "row", "index"] 4 has_other := by
    obtain ⟨_, _, hf, F⟩ := F_has_other
    exact ok_has_other Z F hf h_minus h_is_so_long
  have h_broken_at : Has l.prog w base ⟨K, mg, [(Pt, ("law" : Str) ++ ".<locals>." ++ "<lambda>")]⟩ "broken_at" ["rule", "row"] 5 broken_at := by
    obtain ⟨_, _, hf, F⟩ := F_broken_at
    exact ok_broken_at Z F hf h_has_other
  have h_is_kept : Has l.prog w base ⟨K, mg, [(Pt, ("law" : Str) ++ ".<locals>." ++ "<lambda>")]⟩ "is_kept" ["rule", "row"] 13 (is_kept 8) := by
    obtain ⟨_, _, hf, F⟩ := F_is_kept
    exact rec_is_kept Z F hf h_broken_at 8
  have h_keeps : Has l.prog w base ⟨K, mg, [(Pt, ("law" : Str) ++ ".<locals>." ++ "<lambda>")]⟩ "keeps" ["rule", "row"] 14 keeps := by
    obtain ⟨_, _, hf, F⟩ := F_keeps
    exact ok_keeps Z F hf h_checked_rule h_checked_timed h_is_kept
  have h_check_plain : Has l.prog w base ⟨K, mg, [(Pt, ("law" : Str) ++ ".<locals>." ++ "<lambda>")]⟩ "check_plain" ["rule"] 12 check_plain := by
    obtain ⟨_, _, hf, F⟩ := F_check_plain
    exact ok_check_plain Z F hf h_checked_rule
  have h_first_broken : Has l.prog w base ⟨K, mg, [(Pt, ("law" : Str) ++ ".<locals>." ++ "<lambda>")]⟩ "first_broken" ["rule", "row"] 13 first_broken := by
    obtain ⟨_, _, hf, F⟩ := F_first_broken
    exact ok_first_broken Z F hf h_check_plain h_checked_timed h_broken_at
  have h_L_source : Has l.prog w base ⟨K, mg, [(Pt, ("law" : Str) ++ ".<locals>." ++ "<lambda>")]⟩ "_law_source" ["_law_script"] 1 L_source := by
    obtain ⟨_, _, hf, F⟩ := F_L_source
    exact ok_L_source Z F hf 
  have h_L_draw : Has l.prog w base ⟨K, mg, [(Pt, ("law" : Str) ++ ".<locals>." ++ "<lambda>")]⟩ "_law_draw" ["_law_source_here", "_law_many"] 1 L_draw := by
    obtain ⟨_, _, hf, F⟩ := F_L_draw
    exact ok_L_draw Z F hf 
  have h_L_pick : Has l.prog w base ⟨K, mg, [(Pt, ("law" : Str) ++ ".<locals>." ++ "<lambda>")]⟩ "_law_pick" ["_law_source_here", "_law_things"] 2 L_pick := by
    obtain ⟨_, _, hf, F⟩ := F_L_pick
    exact ok_L_pick Z F hf h_L_draw
  have h_L_order : Has l.prog w base ⟨K, mg, [(Pt, ("law" : Str) ++ ".<locals>." ++ "<lambda>")]⟩ "_law_order" ["_law_source_here", "_law_things"] 2 L_order := by
    obtain ⟨_, _, hf, F⟩ := F_L_order
    exact ok_L_order Z F hf h_L_draw
  have h_L_words : Has l.prog w base ⟨K, mg, [(Pt, ("law" : Str) ++ ".<locals>." ++ "<lambda>")]⟩ "_law_words" ["_law_source_here", "_law_many"] 3 L_words := by
    obtain ⟨_, _, hf, F⟩ := F_L_words
    exact ok_L_words Z F hf h_L_pick h_L_draw
  have h_L_lean : Has l.prog w base ⟨K, mg, [(Pt, ("law" : Str) ++ ".<locals>." ++ "<lambda>")]⟩ "_law_lean" ["_law_top", "_law_bottom"] 1 L_lean := by
    obtain ⟨_, _, hf, F⟩ := F_L_lean
    exact ok_L_lean Z F hf 
  have h_L_plus : Has l.prog w base ⟨K, mg, [(Pt, ("law" : Str) ++ ".<locals>." ++ "<lambda>")]⟩ "_law_plus" ["_law_one", "_law_other"] 2 L_plus := by
    obtain ⟨_, _, hf, F⟩ := F_L_plus
    exact ok_L_plus Z F hf h_L_lean
  have h_L_minus : Has l.prog w base ⟨K, mg, [(Pt, ("law" : Str) ++ ".<locals>." ++ "<lambda>")]⟩ "_law_minus" ["_law_one", "_law_other"] 2 L_minus := by
    obtain ⟨_, _, hf, F⟩ := F_L_minus
    exact ok_L_minus Z F hf h_L_lean
  have h_L_is_so : Has l.prog w base ⟨K, mg, [(Pt, ("law" : Str) ++ ".<locals>." ++ "<lambda>")]⟩ "_law_is_so" ["_law_length", "_law_word", "_law_number"] 1 L_is_so := by
    obtain ⟨_, _, hf, F⟩ := F_L_is_so
    exact ok_L_is_so Z F hf 
  have h_L_shown_times : Has l.prog w base ⟨K, mg, [(Pt, ("law" : Str) ++ ".<locals>." ++ "<lambda>")]⟩ "_law_shown_times" ["_law_source_here", "_law_row_here"] 3 L_shown_times := by
    obtain ⟨_, _, hf, F⟩ := F_L_shown_times
    exact ok_L_shown_times Z F hf h_L_draw h_L_pick
  have h_L_gap : Has l.prog w base ⟨K, mg, [(Pt, ("law" : Str) ++ ".<locals>." ++ "<lambda>")]⟩ "_law_gap" ["_law_source_here"] 3 L_gap := by
    obtain ⟨_, _, hf, F⟩ := F_L_gap
    exact ok_L_gap Z F hf h_L_pick
  have h_L_plain : Has l.prog w base ⟨K, mg, [(Pt, ("law" : Str) ++ ".<locals>." ++ "<lambda>")]⟩ "_law_plain" ["_law_source_here", "_law_signs", "_law_most"] 3 L_plain := by
    obtain ⟨_, _, hf, F⟩ := F_L_plain
    exact ok_L_plain Z F hf h_L_pick h_L_draw h_L_order
  have h_L_rule : Has l.prog w base ⟨K, mg, [(Pt, ("law" : Str) ++ ".<locals>." ++ "<lambda>")]⟩ "_law_rule" ["_law_source_here", "_law_signs", "_law_most", "_law_many", "_law_deep"] 11 (L_rule 8) := by
    obtain ⟨_, _, hf, F⟩ := F_L_rule
    exact rec_L_rule Z F hf h_L_draw h_L_plain h_L_pick 8
  have h_L_shown_rule : Has l.prog w base ⟨K, mg, [(Pt, ("law" : Str) ++ ".<locals>." ++ "<lambda>")]⟩ "_law_shown_rule" ["_law_source_here", "_law_rule_here"] 10 (L_shown_rule 8) := by
    obtain ⟨_, _, hf, F⟩ := F_L_shown_rule
    exact rec_L_shown_rule Z F hf h_L_pick 8
  have h_L_has_other : Has l.prog w base ⟨K, mg, [(Pt, ("law" : Str) ++ ".<locals>." ++ "<lambda>")]⟩ "_law_has_other" ["_law_rule_here", "_law_row_here", "_law_at"] 3 L_has_other := by
    obtain ⟨_, _, hf, F⟩ := F_L_has_other
    exact ok_L_has_other Z F hf h_L_minus h_L_is_so
  have h_L_broken : Has l.prog w base ⟨K, mg, [(Pt, ("law" : Str) ++ ".<locals>." ++ "<lambda>")]⟩ "_law_broken" ["_law_rule_here", "_law_row_here"] 4 L_broken := by
    obtain ⟨_, _, hf, F⟩ := F_L_broken
    exact ok_L_broken Z F hf h_L_has_other
  have h_L_keeps : Has l.prog w base ⟨K, mg, [(Pt, ("law" : Str) ++ ".<locals>." ++ "<lambda>")]⟩ "_law_keeps" ["_law_rule_here", "_law_row_here"] 12 (L_keeps 8) := by
    obtain ⟨_, _, hf, F⟩ := F_L_keeps
    exact rec_L_keeps Z F hf h_L_broken 8
  have h_L_row : Has l.prog w base ⟨K, mg, [(Pt, ("law" : Str) ++ ".<locals>." ++ "<lambda>")]⟩ "_law_row" ["_law_source_here", "_law_signs"] 4 L_row := by
    obtain ⟨_, _, hf, F⟩ := F_L_row
    exact ok_L_row Z F hf h_L_draw h_L_gap h_L_plus h_L_pick
  have h_L_bad_row : Has l.prog w base ⟨K, mg, [(Pt, ("law" : Str) ++ ".<locals>." ++ "<lambda>")]⟩ "_law_bad_row" ["_law_source_here", "_law_row_here"] 3 L_bad_row := by
    obtain ⟨_, _, hf, F⟩ := F_L_bad_row
    exact ok_L_bad_row Z F hf h_L_draw h_L_pick h_L_lean
  exact ok_law Z (List.mem_singleton.mpr rfl) (fun p hp _ => by rw [List.mem_singleton.mp hp]) (htab _ (List.mem_singleton.mpr rfl)) FT hgT ex lk hcd h_L_source h_L_draw h_L_words h_L_rule h_L_row h_L_shown_rule h_L_shown_times h_keeps h_L_keeps h_L_plain h_first_broken h_L_broken h_L_bad_row
end R
end DL

set_option Elab.async false
set_option linter.all false
set_option maxRecDepth 100000
set_option maxHeartbeats 1000000
namespace DL
open PySem PySem.Spec PyProof.Rows L2
@[simp] theorem isFn_non : isFn .non = false := by simp [isFn]
@[simp] theorem isFn_bl (b : Bool) : isFn (.bl b) = false := by simp [isFn]
@[simp] theorem isFn_int (b : Int) : isFn (.int b) = false := by simp [isFn]
@[simp] theorem isFn_str (b : Str) : isFn (.str b) = false := by simp [isFn]
@[simp] theorem isFn_lst (b : List D) : isFn (.lst b) = false := by simp [isFn]
@[simp] theorem isFn_tup (b : List D) : isFn (.tup b) = false := by simp [isFn]
@[simp] theorem isFn_cel (b : Nat) : isFn (.cel b) = false := by simp [isFn]
@[simp] theorem isFn_scr (b : List Int) : isFn (.scr b) = false := by simp [isFn]
@[simp] theorem isFn_dic : isFn .dic = false := by simp [isFn]
theorem beq_dec {α : Type} [BEq α] [LawfulBEq α] [DecidableEq α] (a b : α) : (a == b) = decide (a = b) := by
  by_cases h : a = b
  · simp [h]
  · simp [h]
section
variable {st : Sto}
@[simp] theorem oGe_ii (a b : Int) : oGe (.int a) (.int b) st = .ok (.bl (decide (b ≤ a))) st := rfl
@[simp] theorem oGt_ii (a b : Int) : oGt (.int a) (.int b) st = .ok (.bl (decide (b < a))) st := rfl
@[simp] theorem oLe_ii (a b : Int) : oLe (.int a) (.int b) st = .ok (.bl (decide (a ≤ b))) st := rfl
@[simp] theorem oLt_ii (a b : Int) : oLt (.int a) (.int b) st = .ok (.bl (decide (a < b))) st := rfl
@[simp] theorem oSub_ii (a b : Int) : oSub (.int a) (.int b) st = .ok (.int (a - b)) st := rfl
@[simp] theorem oAdd_ii (a b : Int) : oAdd (.int a) (.int b) st = .ok (.int (a + b)) st := rfl
theorem oMul_ii {a b : Int} (h : cMul a b = true) : oMul (.int a) (.int b) st = .ok (.int (a * b)) st := by
  unfold oMul iiO; simp [h]
theorem oDiv_ii {a b : Int} (h : cDiv a b = true) : oDiv (.int a) (.int b) st = .ok (.int (a / b)) st := by
  unfold oDiv iiO; simp [h]
theorem oMod_ii {a b : Int} (h : 0 < b) : oMod (.int a) (.int b) st = .ok (.int (a % b)) st := by
  unfold oMod iiO cMod; simp [h]
theorem oPow_ii {a b : Int} (h : cPow a b = true) : oPow (.int a) (.int b) st = .ok (.int (a ^ b.toNat)) st := by
  unfold oPow iiO; simp [h]
@[simp] theorem fineD_int (a : Int) : fineD (.int a) = true := by simp [fineD, plainD, pyD, SeqAt.shaped, PyData.canLay0, PyData.depth]
@[simp] theorem fineD_str (a : Str) : fineD (.str a) = PyData.strOk a := by simp [fineD, plainD, pyD, SeqAt.shaped, PyData.canLay0, PyData.depth]
@[simp] theorem fineD_bl (a : Bool) : fineD (.bl a) = true := by simp [fineD, plainD, pyD, SeqAt.shaped, PyData.canLay0, PyData.depth]
@[simp] theorem fineD_non : fineD .non = true := by simp [fineD, plainD, pyD, SeqAt.shaped, PyData.canLay0, PyData.depth]
@[simp] theorem oEq_ii (a b : Int) : oEq (.int a) (.int b) st = .ok (.bl (decide (a = b))) st := by
  unfold oEq; simp [pyD, PyData.eqv]; exact beq_dec _ _
@[simp] theorem oNe_ii (a b : Int) : oNe (.int a) (.int b) st = .ok (.bl (!decide (a = b))) st := by
  unfold oNe; simp [pyD, PyData.eqv]; exact beq_dec _ _
@[simp] theorem oEq_ss {a b : Str} (ha : PyData.strOk a = true) (hb : PyData.strOk b = true) : oEq (.str a) (.str b) st = .ok (.bl (decide (a = b))) st := by
  unfold oEq; simp [pyD, PyData.eqv, ha, hb]; exact beq_dec _ _
@[simp] theorem oEq_bb (a b : Bool) : oEq (.bl a) (.bl b) st = .ok (.bl (decide (a = b))) st := by
  unfold oEq; simp [pyD, PyData.eqv]; exact beq_dec _ _
@[simp] theorem oNe_bb (a b : Bool) : oNe (.bl a) (.bl b) st = .ok (.bl (!decide (a = b))) st := by
  unfold oNe; simp [pyD, PyData.eqv]; exact beq_dec _ _
@[simp] theorem oIsN_non : oIsN .non .non st = .ok (.bl true) st := rfl
theorem ixO_lst {ds : List D} {i : Nat} {d : D} (h : ds[i]? = some d) : ixO (.lst ds) (.int i) st = .ok d st := by
  unfold ixO seqOf; simp [atI_nat h]
theorem ixO_tup {ds : List D} {i : Nat} {d : D} (h : ds[i]? = some d) : ixO (.tup ds) (.int i) st = .ok d st := by
  unfold ixO seqOf; simp [atI_nat h]
@[simp] theorem short1 (ds : List D) (h : ds.length ≤ 100000) : short ds = true := by simp [short, h]
@[simp] theorem startE1 (a : D) (n : Nat) : startE (n + 1) [a] = some a :: List.replicate n none := rfl
@[simp] theorem startE2 (a b : D) (n : Nat) : startE (n + 2) [a, b] = some a :: some b :: List.replicate n none := by simp [startE]
@[simp] theorem startE3 (a b c : D) (n : Nat) : startE (n + 3) [a, b, c] = some a :: some b :: some c :: List.replicate n none := by simp [startE]
end
namespace R
variable {st : Sto}
/-! ### small questions -/
def isI (d : D) : Bool := match d with
  | .int _ => true
  | _ => false
def isL (d : D) : Bool := match d with
  | .lst _ => true
  | .tup _ => true
  | .cel _ => true
  | .scr _ => true
  | _ => false
def isS (d : D) : Bool := match d with
  | .str _ => true
  | _ => false
def isNat (d : D) : Bool := match d with
  | .int i => decide (0 ≤ i)
  | _ => false
@[simp] theorem is_integer_eq {d : D} (h : isFn d = false) : is_integer [d] st = .ok (.bl (isI d)) st := by
  apply Wp.eq
  cases d <;> first | (cases h; done) | simp [is_integer, m_is_integer, startE, tyN, isaB, isI]
@[simp] theorem is_list_eq {d : D} (h : isFn d = false) : is_list [d] st = .ok (.bl (isL d)) st := by
  apply Wp.eq
  cases d <;> first | (cases h; done) | simp [is_list, m_is_list, startE, tyN, isaB, isL]
@[simp] theorem is_natural_eq {d : D} (h : isFn d = false) : is_natural [d] st = .ok (.bl (isNat d)) st := by
  apply Wp.eq
  cases d <;> first | (cases h; done) | simp [is_natural, m_is_natural, startE, isI, isNat]
/-- the items of a list, a tuple -/
def its (d : D) : Option (List D) := match d with
  | .lst ds => some ds
  | .tup ds => some ds
  | _ => none
/-- no cell, no script, no function -/
def plainL (d : D) : Bool := match d with
  | .cel _ => false
  | .scr _ => false
  | .fn _ _ _ _ _ => false
  | _ => true
def isP (d : D) : Bool := match its d with
  | some ds => decide (ds.length = 2)
  | none => false
@[simp] theorem is_pair_eq {d : D} (h : plainL d = true) : is_pair [d] st = .ok (.bl (isP d)) st := by
  apply Wp.eq
  cases d <;> first | (cases h; done) | simp [is_pair, m_is_pair, startE, isL, isP, its, lenO, seqOf]
  all_goals omega

/-! ### names -/
def letters : Str := "abcdefghijklmnopqrstuvwxyz"
def nameS (s : Str) : Bool := decide (1 ≤ s.length) && decide (s.length ≤ 8) && s.cps.toList.all fun c => decide (c ∈ letters.cps.toList)
def nameD (d : D) : Bool := match d with
  | .str s => nameS s
  | _ => false
theorem lc_map {me : EM D} {env0 : Env'} {i : Nat} (f : D → D) (hm : ∀ d, me (env0.set i (some d)) st = .ok (f d) st) : ∀ (ds acc : List D), acc.length + ds.length ≤ 100000 → lcM (gN i) tT me env0 ds acc st = .ok (.lst (acc ++ ds.map f)) st
  | [], acc, _ => by simp [lcM]
  | d :: ds, acc, h => by
    have h' : acc.length + (ds.length + 1) ≤ 100000 := h
    unfold lcM
    simp only [gN_eq, tT, hm d, if_true]
    rw [if_pos (by omega), lc_map f hm ds (acc ++ [f d]) (by simp; omega)]
    simp
theorem lc_mapM {me : EM D} {env0 : Env'} {i : Nat} (f : D → D) : ∀ (ds acc : List D), (∀ d ∈ ds, me (env0.set i (some d)) st = .ok (f d) st) → acc.length + ds.length ≤ 100000 → lcM (gN i) tT me env0 ds acc st = .ok (.lst (acc ++ ds.map f)) st
  | [], acc, _, _ => by simp [lcM]
  | d :: ds, acc, hm, h => by
    have h' : acc.length + (ds.length + 1) ≤ 100000 := h
    unfold lcM
    simp only [gN_eq, tT, hm d (List.mem_cons_self ..), if_true]
    rw [if_pos (by omega), lc_mapM f ds (acc ++ [f d]) (fun e he => hm e (List.mem_cons_of_mem _ he)) (by simp; omega)]
    simp
theorem bls_map {α : Type} (f : α → Bool) : ∀ l : List α, bls (l.map fun a => D.bl (f a)) = some (l.map f)
  | [] => rfl
  | a :: l => by simp [bls, bls_map f l]
theorem lenO_str {s : Str} (hb : s.length ≤ 100000) : lenO [.str s] st = .ok (.int s.length) st := by unfold lenO; simp [hb]
theorem inO_sign (c : Nat) (z : Str) : inO false (.str ⟨#[c]⟩) (.str z) st = .ok (.bl (decide (c ∈ z.cps.toList))) st := by
  unfold inO; simp
def signD (z : Str) (d : D) : D := match d with
  | .str s => .bl (decide (s.cps.toList.headD 0 ∈ z.cps.toList))
  | d => d
theorem is_name_str {s : Str} (hb : s.length ≤ 100000) : is_name [.str s] st = .ok (.bl (nameS s)) st := by
  have hlc : ∀ env0 : Env', lcM (gN 1) tT (eOp (inO false) (eV 1) (eC (.str "abcdefghijklmnopqrstuvwxyz"))) (some (.str s) :: [none]) (s.cps.toList.map fun c => D.str ⟨#[c]⟩) [] st = .ok (.lst ((s.cps.toList.map fun c => D.str ⟨#[c]⟩).map (signD letters))) st := fun env0 => by
    refine lc_mapM (signD letters) _ _ (fun d hd => ?_) ?_
    · obtain ⟨c, _, rfl⟩ := List.mem_map.mp hd
      apply Wp.eq
      simp [inO_sign, signD, letters]
    · have : s.cps.size = s.length := rfl
      simp; omega
  apply Wp.eq
  by_cases h1 : 1 ≤ s.length
  · by_cases h2 : s.length ≤ 8
    · have e1 : (1 : Int) ≤ (s.length : Int) := by omega
      have e2 : (s.length : Int) ≤ 8 := by omega
      simp [is_name, m_is_name, tyN, isaB, Wp_eLc, lenO_str hb, e1, e2, itemsOf, wipeE, hlc [], allO, lstOf]
      rw [show ((signD letters) ∘ fun c => D.str ⟨#[c]⟩) = fun c => D.bl (decide (c ∈ letters.cps.toList)) from rfl, bls_map]
      simp [nameS, h1, h2]
    · have e1 : (1 : Int) ≤ (s.length : Int) := by omega
      have e2 : ¬ (s.length : Int) ≤ 8 := by omega
      simp [is_name, m_is_name, tyN, isaB, lenO_str hb, e1, e2, nameS, h2]
  · have e1 : ¬ (1 : Int) ≤ (s.length : Int) := by omega
    simp [is_name, m_is_name, tyN, isaB, lenO_str hb, e1, nameS, h1]
theorem is_name_eq {d : D} (h : isFn d = false) (hb : ∀ s, d = .str s → s.length ≤ 100000) : is_name [d] st = .ok (.bl (nameD d)) st := by
  cases d with
  | str s => exact is_name_str (hb s rfl)
  | fn _ _ _ _ _ => cases h
  | _ =>
    apply Wp.eq
    simp [is_name, m_is_name, tyN, isaB, nameD]
/-! ### fractions -/
@[simp] theorem absO_i (a : Int) : absO [.int a] st = .ok (.int a.natAbs) st := by
  simp [absO]; split <;> omega
@[simp] theorem intO_i (a : Int) : intO [.int a] st = .ok (.int a) st := rfl
def g2 (p q : Int) : Nat := Nat.gcd p.natAbs q.natAbs
theorem gd_eq (a b : Nat) : greatest_divisor [.int a, .int b] st = .ok (.int (Nat.gcd a b)) st := by
  apply Wp.eq
  simp only [greatest_divisor, m_greatest_divisor, Wp_run, WS_seq]
  refine WS_while (fun n env s => s = st ∧ ∃ x y : Nat, env = [some (.int x), some (.int y)] ∧ y < n ∧ Nat.gcd x y = Nat.gcd a b) (fun n env s hI => ?_) ?_
  · obtain ⟨rfl, x, y, rfl, hy, hg⟩ := hI
    refine ⟨n - 1, by omega, ?_⟩
    by_cases hz : y = 0
    · subst hz
      simp
      rw [← hg]
      simp
    · have hz' : ¬ ((y : Int) = 0) := by omega
      have key : (s = s ∧ ∃ x' y' : Nat, [some (D.int (y : Int)), some (D.int ((x : Int) % (y : Int)))] = [some (D.int x'), some (D.int y')] ∧ y' < n - 1 ∧ Nat.gcd x' y' = Nat.gcd a b) := by
        refine ⟨rfl, y, x % y, by simp, ?_, ?_⟩
        · have := Nat.mod_lt x (show 0 < y by omega)
          omega
        · rw [← hg, Nat.gcd_comm x y, Nat.gcd_rec y x, Nat.gcd_comm]
      simpa [hz, hz', oMod_ii (show (0 : Int) < (y : Int) by omega)] using key
  · exact ⟨rfl, a, b, by simp [startE], by simp [startE, fuelAt], rfl⟩
/-- a fraction in lowest terms -/
def low (p q : Int) : Int × Int := (p / (g2 p q : Int), q / (g2 p q : Int))
def frD (f : Int × Int) : D := .tup [.int f.1, .int f.2]
theorem g2_pos {p q : Int} (h : 0 < q) : 0 < g2 p q := Nat.gcd_pos_of_pos_right _ (by omega)
theorem g2_le {p q : Int} (h : 0 < q) : (g2 p q : Int) ≤ q := by
  have := Nat.gcd_le_right p.natAbs (show 0 < q.natAbs by omega)
  unfold g2; omega
theorem cDiv_small {a b : Int} (h : 0 < b) (h2 : b < 2 ^ 200) : cDiv a b = true := by
  unfold cDiv
  have : b.natAbs.log2 < 9000 := by
    have h1 : b.natAbs < 2 ^ 200 := by omega
    by_cases hz : b.natAbs = 0
    · rw [hz]; decide
    · exact Nat.lt_trans ((Nat.log2_lt hz).mpr h1) (by omega)
  simp [h, this]
theorem cMul_l {a b : Int} (h1 : -(2 ^ 64) < a) (h2 : a < 2 ^ 64) : cMul a b = true := by
  unfold cMul
  rw [decide_eq_true (⟨h1, h2⟩ : -(2 ^ 64) < a ∧ a < 2 ^ 64), Bool.true_or, Bool.true_or]
theorem cMul_r {a b : Int} (h1 : -(2 ^ 64) < b) (h2 : b < 2 ^ 64) : cMul a b = true := by
  unfold cMul
  rw [decide_eq_true (⟨h1, h2⟩ : -(2 ^ 64) < b ∧ b < 2 ^ 64), Bool.or_true, Bool.true_or]
theorem lowest_eq {p q : Int} (hq : 0 < q) (hb : q < 2 ^ 200) : lowest [.int p, .int q] st = .ok (frD (low p q)) st := by
  apply Wp.eq
  have hg := g2_pos (p := p) hq
  have hl := g2_le (p := p) hq
  have eq : (q.natAbs : Int) = q := by omega
  have e1 : greatest_divisor [.int (p.natAbs : Int), .int q] st = .ok (.int (g2 p q)) st := by
    have := gd_eq (st := st) p.natAbs q.natAbs
    rw [eq] at this
    exact this
  simp [lowest, m_lowest, e1, oDiv_ii (cDiv_small (a := p) (b := (g2 p q : Int)) (by omega) (by omega)), oDiv_ii (cDiv_small (a := q) (b := (g2 p q : Int)) (by omega) (by omega)), frD, low]
theorem L_lean_eq {p q : Int} (hq : 0 < q) (hb : q < 2 ^ 200) : L_lean [.int p, .int q] st = .ok (frD (low p q)) st := by
  apply Wp.eq
  have hg := g2_pos (p := p) hq
  have hl := g2_le (p := p) hq
  have eq : (q.natAbs : Int) = q := by omega
  simp only [L_lean, m_L_lean, Wp_run, WS_seq, WS_par, Wp_eCB, Wp_aCons, Wp_aNil, Wp_eV, startE2]
  simp only [List.replicate, List.getElem?_cons_zero, List.getElem?_cons_succ, Option.some.injEq, exists_eq_left', absO_i, Wp_ok, List.set_cons_zero, List.set_cons_succ]
  refine WS_while (fun n env s => s = st ∧ ∃ x y : Nat, env = [some (.int p), some (.int q), some (.int x), some (.int y)] ∧ y < n ∧ Nat.gcd x y = g2 p q) (fun n env s hI => ?_) ?_
  · obtain ⟨rfl, x, y, rfl, hy, hgg⟩ := hI
    refine ⟨n - 1, by omega, ?_⟩
    by_cases hz : y = 0
    · subst hz
      have e : x = g2 p q := by rw [← hgg]; simp
      subst e
      simp [oDiv_ii (cDiv_small (a := p) (b := (g2 p q : Int)) (by omega) (by omega)), oDiv_ii (cDiv_small (a := q) (b := (g2 p q : Int)) (by omega) (by omega)), frD, low]
    · have hz' : ¬ ((y : Int) = 0) := by omega
      have key : (s = s ∧ ∃ x' y' : Nat, [some (D.int p), some (D.int q), some (D.int (y : Int)), some (D.int ((x : Int) % (y : Int)))] = [some (D.int p), some (D.int q), some (D.int x'), some (D.int y')] ∧ y' < n - 1 ∧ Nat.gcd x' y' = g2 p q) := by
        refine ⟨rfl, y, x % y, by simp, ?_, ?_⟩
        · have := Nat.mod_lt x (show 0 < y by omega)
          omega
        · rw [← hgg, Nat.gcd_comm x y, Nat.gcd_rec y x, Nat.gcd_comm]
      simpa [hz, hz', oMod_ii (show (0 : Int) < (y : Int) by omega)] using key
  · exact ⟨rfl, p.natAbs, q.natAbs, by simp [eq], by simp [fuelAt], rfl⟩
/-- a time: in lowest terms, not below zero, small -/
structure Fr (f : Int × Int) : Prop where
  n0 : 0 ≤ f.1
  n1 : f.1 < 2 ^ 60
  d0 : 0 < f.2
  d1 : f.2 < 2 ^ 60
  lo : g2 f.1 f.2 = 1
def mi (a b : Int × Int) : Int × Int := low (a.1 * b.2 - b.1 * a.2) (a.2 * b.2)
theorem mul60 {a b : Int} (ha : 0 < a) (hb : 0 < b) (ha1 : a < 2 ^ 60) (hb1 : b < 2 ^ 60) : 0 < a * b ∧ a * b < 2 ^ 200 := by
  refine ⟨Int.mul_pos ha hb, ?_⟩
  have h1 : a * b ≤ 2 ^ 60 * 2 ^ 60 := Int.mul_le_mul (by omega) (by omega) (by omega) (by omega)
  have h2 : (2 ^ 60 * 2 ^ 60 : Int) < 2 ^ 200 := by decide
  omega
theorem ix0 {a b : D} : ixO (.tup [a, b]) (.int 0) st = .ok a st := ixO_tup (i := 0) rfl
theorem ix1 {a b : D} : ixO (.tup [a, b]) (.int 1) st = .ok b st := ixO_tup (i := 1) rfl
theorem minus_eq {a b : Int × Int} (ha : Fr a) (hb : Fr b) : minus [frD a, frD b] st = .ok (frD (mi a b)) st := by
  apply Wp.eq
  obtain ⟨h1, h2⟩ := mul60 ha.d0 hb.d0 ha.d1 hb.d1
  have := ha.d0; have := ha.d1; have := hb.d0; have := hb.d1
  simp [minus, m_minus, frD, ix0, ix1, oMul_ii (cMul_r (a := a.1) (b := b.2) (by omega) (by omega)), oMul_ii (cMul_r (a := b.1) (b := a.2) (by omega) (by omega)), oMul_ii (cMul_r (a := a.2) (b := b.2) (by omega) (by omega)), lowest_eq h1 h2, mi]
theorem L_minus_eq {a b : Int × Int} (ha : Fr a) (hb : Fr b) : L_minus [frD a, frD b] st = .ok (frD (mi a b)) st := by
  apply Wp.eq
  obtain ⟨h1, h2⟩ := mul60 ha.d0 hb.d0 ha.d1 hb.d1
  have := ha.d0; have := ha.d1; have := hb.d0; have := hb.d1
  simp [L_minus, m_L_minus, frD, ix0, ix1, oMul_ii (cMul_r (a := a.1) (b := b.2) (by omega) (by omega)), oMul_ii (cMul_r (a := b.1) (b := a.2) (by omega) (by omega)), oMul_ii (cMul_r (a := a.2) (b := b.2) (by omega) (by omega)), L_lean_eq h1 h2, mi]
theorem is_less_eq {a b : Int × Int} (ha : Fr a) (hb : Fr b) : is_less [frD a, frD b] st = .ok (.bl (decide (a.1 * b.2 < b.1 * a.2))) st := by
  apply Wp.eq
  have := ha.d0; have := ha.d1; have := hb.d0; have := hb.d1
  simp [is_less, m_is_less, frD, ix0, ix1, oMul_ii (cMul_r (a := a.1) (b := b.2) (by omega) (by omega)), oMul_ii (cMul_r (a := b.1) (b := a.2) (by omega) (by omega))]
theorem so_upto : PyData.strOk "upto" = true := by decide +kernel
theorem so_below : PyData.strOk "below" = true := by decide +kernel
theorem so_from : PyData.strOk "from" = true := by decide +kernel
theorem so_above : PyData.strOk "above" = true := by decide +kernel
theorem so_since : PyData.strOk "since" = true := by decide +kernel
theorem so_soon : PyData.strOk "soon" = true := by decide +kernel
theorem so_not : PyData.strOk "not" = true := by decide +kernel
theorem so_both : PyData.strOk "both" = true := by decide +kernel
theorem so_either : PyData.strOk "either" = true := by decide +kernel
theorem inV2 (a b c : Str) : inV (.str a) [.str b, .str c] = (decide (a = b) || decide (a = c)) := by
  have sw : ∀ x y : Str, (x == y) = decide (y = x) := fun x y => by rw [beq_dec]; exact decide_eq_decide.mpr ⟨Eq.symm, Eq.symm⟩
  simp only [inV, List.any_cons, List.any_nil, Bool.or_false]
  show ((b == a) || (c == a)) = _
  rw [sw, sw]
/-- is it so long -/
def soB (w : Str) (f : Int × Int) (n : Int) : Bool := if w = "upto" then decide (f.1 ≤ n * f.2) else if w = "below" then decide (f.1 < n * f.2) else if w = "from" then decide (n * f.2 ≤ f.1) else decide (n * f.2 < f.1)
def isWord (w : Str) : Prop := w = "upto" ∨ w = "below" ∨ w = "from" ∨ w = "above"
theorem so_long_eq {w : Str} {f : Int × Int} {n : Int} (hw : isWord w) (h0 : 0 ≤ n) (h1 : n < 1000) : is_so_long [frD f, .str w, .int n] st = .ok (.bl (soB w f n)) st := by
  apply Wp.eq
  have m1 : oMul (.int f.1) (.int 1) st = .ok (.int (f.1 * 1)) st := oMul_ii (cMul_r (by omega) (by omega))
  have m2 : oMul (.int n) (.int f.2) st = .ok (.int (n * f.2)) st := oMul_ii (cMul_l (by omega) (by omega))
  rcases hw with rfl | rfl | rfl | rfl
  all_goals simp (decide := true) [is_so_long, m_is_so_long, inO, seqOf, fv, fvs, whole, m_whole, is_upto, m_is_upto, is_less, m_is_less, frD, ix0, ix1, m1, m2, soB, inV2, so_upto, so_below, so_from, so_above]
end R
end DL

set_option Elab.async false
set_option linter.all false
set_option maxRecDepth 100000
set_option maxHeartbeats 1000000
namespace DL
open PySem PySem.Spec PyProof.Rows L2
namespace R
variable {st : Sto}
theorem is_so_eq {w : Str} {f : Int × Int} {n : Int} (hw : isWord w) (h0 : 0 ≤ n) (h1 : n < 1000) : L_is_so [frD f, .str w, .int n] st = .ok (.bl (soB w f n)) st := by
  apply Wp.eq
  have m2 : oMul (.int n) (.int f.2) st = .ok (.int (n * f.2)) st := oMul_ii (cMul_l (by omega) (by omega))
  rcases hw with rfl | rfl | rfl | rfl
  · by_cases c1 : f.1 - n * f.2 < 0
    · have c2 : f.1 ≤ n * f.2 := by omega
      simp (decide := true) [L_is_so, m_L_is_so, inO, seqOf, fv, fvs, frD, ix0, ix1, m2, soB, inV2, so_upto, c1, c2]
    · by_cases c3 : f.1 - n * f.2 = 0
      · have c2 : f.1 ≤ n * f.2 := by omega
        simp (decide := true) [L_is_so, m_L_is_so, inO, seqOf, fv, fvs, frD, ix0, ix1, m2, soB, inV2, so_upto, c1, c2, c3]
      · have c2 : ¬ f.1 ≤ n * f.2 := by omega
        simp (decide := true) [L_is_so, m_L_is_so, inO, seqOf, fv, fvs, frD, ix0, ix1, m2, soB, inV2, so_upto, c1, c2, c3]
  · by_cases c1 : f.1 - n * f.2 < 0
    · have c2 : f.1 < n * f.2 := by omega
      simp (decide := true) [L_is_so, m_L_is_so, inO, seqOf, fv, fvs, frD, ix0, ix1, m2, soB, inV2, so_upto, so_below, c1, c2]
    · have c2 : ¬ f.1 < n * f.2 := by omega
      by_cases c3 : f.1 - n * f.2 = 0 <;> simp (decide := true) [L_is_so, m_L_is_so, inO, seqOf, fv, fvs, frD, ix0, ix1, m2, soB, inV2, so_upto, so_below, c1, c2, c3]
  · by_cases c1 : 0 < f.1 - n * f.2
    · have c2 : n * f.2 ≤ f.1 := by omega
      simp (decide := true) [L_is_so, m_L_is_so, inO, seqOf, fv, fvs, frD, ix0, ix1, m2, soB, inV2, so_from, c1, c2]
      omega
    · by_cases c3 : f.1 - n * f.2 = 0
      · have c2 : n * f.2 ≤ f.1 := by omega
        simp (decide := true) [L_is_so, m_L_is_so, inO, seqOf, fv, fvs, frD, ix0, ix1, m2, soB, inV2, so_from, c1, c2, c3]
      · have c2 : ¬ n * f.2 ≤ f.1 := by omega
        simp (decide := true) [L_is_so, m_L_is_so, inO, seqOf, fv, fvs, frD, ix0, ix1, m2, soB, inV2, so_from, c1, c2, c3]
        omega
  · by_cases c1 : 0 < f.1 - n * f.2
    · have c2 : n * f.2 < f.1 := by omega
      simp (decide := true) [L_is_so, m_L_is_so, inO, seqOf, fv, fvs, frD, ix0, ix1, m2, soB, inV2, so_from, so_above, c1, c2]
    · have c2 : ¬ n * f.2 < f.1 := by omega
      by_cases c3 : f.1 - n * f.2 = 0 <;> simp (decide := true) [L_is_so, m_L_is_so, inO, seqOf, fv, fvs, frD, ix0, ix1, m2, soB, inV2, so_from, so_above, c1, c2, c3]
/-! ### plain rules over rows -/
abbrev Row := List (Str × (Int × Int))
def enD (e : Str × (Int × Int)) : D := .tup [.str e.1, frD e.2]
def rowD (r : Row) : D := .lst (r.map enD)
structure EnOk (e : Str × (Int × Int)) : Prop where
  s : PyData.strOk e.1 = true
  f : Fr e.2
structure PR where
  kind : Str
  a : Str
  b : Str
  w : Str
  n : Int
def PR.d (p : PR) : D := .tup [.str p.kind, .str p.a, .str p.b, .str p.w, .int p.n]
structure PR.Ok (p : PR) : Prop where
  k : p.kind = "since" ∨ p.kind = "soon"
  a : PyData.strOk p.a = true
  b : PyData.strOk p.b = true
  w : isWord p.w
  n0 : 0 ≤ p.n
  n1 : p.n < 1000
def oneO (p : PR) (m : Int × Int) (k : Nat) (e : (Str × (Int × Int)) × Nat) : Bool :=
  decide (e.1.1 = p.b) && ((decide (p.kind = "since") && decide (e.2 < k) && soB p.w (mi m e.1.2) p.n) || (decide (p.kind = "soon") && decide (k < e.2) && soB p.w (mi e.1.2 m) p.n))
def enI (e : (Str × (Int × Int)) × Nat) : D := .tup [.int (e.2 : Nat), enD e.1]
theorem enum_row (r : Row) : enumD (rowD r) st = .ok (r.zipIdx.map enI) st := by
  simp only [enumD, rowD, List.zipIdx_map, List.map_map]
  rfl
def bdH : SM := (sSeq (sIf (bAnd (tOf (eOp oEq (eV 10) (eV 5))) (bAnd (tOf (eOp oEq (eV 3) (eC (.str "since")))) (bAnd (tOf (eOp oLt (eV 9) (eV 2))) (tOf (eCall 3 is_so_long (aCons (eCall 2 minus (aCons (eV 8) (aCons (eV 11) aNil))) (aCons (eV 6) (aCons (eV 7) aNil)))))))) (sRet (eC (.bl true))) sNx)
    (sIf (bAnd (tOf (eOp oEq (eV 10) (eV 5))) (bAnd (tOf (eOp oEq (eV 3) (eC (.str "soon")))) (bAnd (tOf (eOp oGt (eV 9) (eV 2))) (tOf (eCall 3 is_so_long (aCons (eCall 2 minus (aCons (eV 11) (aCons (eV 8) aNil))) (aCons (eV 6) (aCons (eV 7) aNil)))))))) (sRet (eC (.bl true))) sNx))
def bdL : SM := (sSeq (sIf (bAnd (tOf (eOp oEq (eV 9) (eV 5))) (bAnd (tOf (eOp oEq (eV 3) (eC (.str "since")))) (tOf (eOp oLt (eV 8) (eV 2))))) (sIf (tOf (eCall 3 L_is_so (aCons (eCall 2 L_minus (aCons (eOp ixO (eOp ixO (eV 1) (eV 2)) (eC (.int 1))) (aCons (eV 10) aNil))) (aCons (eV 6) (aCons (eV 7) aNil))))) (sRet (eC (.bl true))) sNx) sNx)
    (sIf (bAnd (tOf (eOp oEq (eV 9) (eV 5))) (bAnd (tOf (eOp oEq (eV 3) (eC (.str "soon")))) (tOf (eOp oGt (eV 8) (eV 2))))) (sIf (tOf (eCall 3 L_is_so (aCons (eCall 2 L_minus (aCons (eV 10) (aCons (eOp ixO (eOp ixO (eV 1) (eV 2)) (eC (.int 1))) aNil))) (aCons (eV 6) (aCons (eV 7) aNil))))) (sRet (eC (.bl true))) sNx) sNx))
section
variable {N : Env' → Sto → Prop} {R : D → Sto → Prop} {E : EK} {p : PR} {r : Row} {k : Nat} {e0 : Str × (Int × Int)} {e : (Str × (Int × Int)) × Nat} {q0 q1 : D}
theorem bdH_ok (hp : p.Ok) (h0 : EnOk e0) (he : EnOk e.1)
    (h : if oneO p e0.2 k e = true then R (.bl true) st else N [some q0, some q1, some (.int k), some (.str p.kind), some (.str p.a), some (.str p.b), some (.str p.w), some (.int p.n), some (frD e0.2), some (.int (e.2 : Nat)), some (.str e.1.1), some (frD e.1.2)] st) :
    WS (bdH [some q0, some q1, some (.int k), some (.str p.kind), some (.str p.a), some (.str p.b), some (.str p.w), some (.int p.n), some (frD e0.2), some (.int (e.2 : Nat)), some (.str e.1.1), some (frD e.1.2)] st) N R E := by
  have hes := he.s
  have hb := hp.b
  have so1 := so_long_eq (st := st) (f := mi e0.2 e.1.2) hp.w hp.n0 hp.n1
  have so2 := so_long_eq (st := st) (f := mi e.1.2 e0.2) hp.w hp.n0 hp.n1
  have mi1 := minus_eq (st := st) h0.f he.f
  have mi2 := minus_eq (st := st) he.f h0.f
  unfold oneO at h
  by_cases c1 : e.1.1 = p.b
  · rcases hp.k with hk1 | hk1
    · by_cases c2 : e.2 < k
      · have c2' : (e.2 : Int) < (k : Int) := by omega
        cases c3 : soB p.w (mi e0.2 e.1.2) p.n
        · simpa (decide := true) [bdH, hes, hb, c1, hk1, so_since, so_soon, c2, c2', so1, mi1, c3] using h
        · simpa (decide := true) [bdH, hes, hb, c1, hk1, so_since, so_soon, c2, c2', so1, mi1, c3] using h
      · have c2' : ¬ (e.2 : Int) < (k : Int) := by omega
        simpa (decide := true) [bdH, hes, hb, c1, hk1, so_since, so_soon, c2, c2'] using h
    · by_cases c2 : k < e.2
      · have c2' : (k : Int) < (e.2 : Int) := by omega
        cases c3 : soB p.w (mi e.1.2 e0.2) p.n
        · simpa (decide := true) [bdH, hes, hb, c1, hk1, so_since, so_soon, c2, c2', so2, mi2, c3] using h
        · simpa (decide := true) [bdH, hes, hb, c1, hk1, so_since, so_soon, c2, c2', so2, mi2, c3] using h
      · have c2' : ¬ (k : Int) < (e.2 : Int) := by omega
        simpa (decide := true) [bdH, hes, hb, c1, hk1, so_since, so_soon, c2, c2'] using h
  · simpa (decide := true) [bdH, hes, hb, c1] using h
theorem bdL_ok (hp : p.Ok) (h0 : EnOk e0) (he : EnOk e.1) (hix : ixO (rowD r) (.int k) st = .ok (enD e0) st)
    (h : if oneO p e0.2 k e = true then R (.bl true) st else N [some q0, some (rowD r), some (.int k), some (.str p.kind), some (.str p.a), some (.str p.b), some (.str p.w), some (.int p.n), some (.int (e.2 : Nat)), some (.str e.1.1), some (frD e.1.2)] st) :
    WS (bdL [some q0, some (rowD r), some (.int k), some (.str p.kind), some (.str p.a), some (.str p.b), some (.str p.w), some (.int p.n), some (.int (e.2 : Nat)), some (.str e.1.1), some (frD e.1.2)] st) N R E := by
  have hes := he.s
  have hb := hp.b
  have so1 := is_so_eq (st := st) (f := mi e0.2 e.1.2) hp.w hp.n0 hp.n1
  have so2 := is_so_eq (st := st) (f := mi e.1.2 e0.2) hp.w hp.n0 hp.n1
  have mi1 := L_minus_eq (st := st) h0.f he.f
  have mi2 := L_minus_eq (st := st) he.f h0.f
  have i2 : ixO (enD e0) (.int 1) st = .ok (frD e0.2) st := ix1
  unfold oneO at h
  by_cases c1 : e.1.1 = p.b
  · rcases hp.k with hk1 | hk1
    · by_cases c2 : e.2 < k
      · have c2' : (e.2 : Int) < (k : Int) := by omega
        cases c3 : soB p.w (mi e0.2 e.1.2) p.n
        · simpa (decide := true) [bdL, hes, hb, c1, hk1, so_since, so_soon, c2, c2', so1, mi1, c3, hix, i2] using h
        · simpa (decide := true) [bdL, hes, hb, c1, hk1, so_since, so_soon, c2, c2', so1, mi1, c3, hix, i2] using h
      · have c2' : ¬ (e.2 : Int) < (k : Int) := by omega
        simpa (decide := true) [bdL, hes, hb, c1, hk1, so_since, so_soon, c2, c2'] using h
    · by_cases c2 : k < e.2
      · have c2' : (k : Int) < (e.2 : Int) := by omega
        cases c3 : soB p.w (mi e.1.2 e0.2) p.n
        · simpa (decide := true) [bdL, hes, hb, c1, hk1, so_since, so_soon, c2, c2', so2, mi2, c3, hix, i2] using h
        · simpa (decide := true) [bdL, hes, hb, c1, hk1, so_since, so_soon, c2, c2', so2, mi2, c3, hix, i2] using h
      · have c2' : ¬ (k : Int) < (e.2 : Int) := by omega
        simpa (decide := true) [bdL, hes, hb, c1, hk1, so_since, so_soon, c2, c2'] using h
  · simpa (decide := true) [bdL, hes, hb, c1] using h
end
theorem has_other_eq {p : PR} {r : Row} {k : Nat} {e0 : Str × (Int × Int)} (hp : p.Ok) (hr : ∀ e ∈ r, EnOk e) (hk : r[k]? = some e0) : has_other [p.d, rowD r, .int k] st = .ok (.bl (r.zipIdx.any (oneO p e0.2 k))) st := by
  generalize hv : r.zipIdx.any (oneO p e0.2 k) = v
  apply Wp.eq
  have h0 : EnOk e0 := hr _ (List.mem_of_getElem? hk)
  have hix : ixO (rowD r) (.int k) st = .ok (enD e0) st := ixO_lst (by rw [List.getElem?_map, hk]; rfl)
  simp only [has_other, m_has_other, Wp_run, WS_seq, WS_for, startE3, Wp_iEm]
  simp [gT, gsCons, gsNil, PR.d, hix, enD, ix1, enum_row]
  refine WS_forM (fun ds env s => s = st ∧ ∃ rest : List ((Str × (Int × Int)) × Nat), ds = rest.map enI ∧ (∀ e ∈ rest, EnOk e.1) ∧ v = rest.any (oneO p e0.2 k) ∧ ∃ x y z, env = [some p.d, some (rowD r), some (.int k), some (.str p.kind), some (.str p.a), some (.str p.b), some (.str p.w), some (.int p.n), some (frD e0.2), x, y, z]) (fun d ds env s hI => ?_) (fun env s hI => ?_) _ _ _ ?_
  · obtain ⟨rfl, rest, hds, hok, hany, x, y, z, rfl⟩ := hI
    cases rest with
    | nil => cases hds
    | cons e rest =>
      simp only [List.map_cons, List.cons.injEq] at hds
      obtain ⟨rfl, rfl⟩ := hds
      refine bdH_ok (e := e) hp h0 (hok e (List.mem_cons_self ..)) ?_
      rw [hany, List.any_cons]
      cases oneO p e0.2 k e with
      | true => exact ⟨rfl, rfl⟩
      | false => exact ⟨rfl, rest, rfl, fun e he => hok e (List.mem_cons_of_mem _ he), by simp, _, _, _, rfl⟩
  · obtain ⟨rfl, rest, hds, _, hany, _⟩ := hI
    cases rest with
    | nil => rw [hany]; exact ⟨rfl, rfl⟩
    | cons e rest => cases hds
  · exact ⟨rfl, _, rfl, fun e he => hr _ (List.fst_mem_of_mem_zipIdx he), hv.symm, _, _, _, rfl⟩
theorem L_has_other_eq {p : PR} {r : Row} {k : Nat} {e0 : Str × (Int × Int)} (hp : p.Ok) (hr : ∀ e ∈ r, EnOk e) (hk : r[k]? = some e0) : L_has_other [p.d, rowD r, .int k] st = .ok (.bl (r.zipIdx.any (oneO p e0.2 k))) st := by
  generalize hv : r.zipIdx.any (oneO p e0.2 k) = v
  apply Wp.eq
  have h0 : EnOk e0 := hr _ (List.mem_of_getElem? hk)
  have hix : ixO (rowD r) (.int k) st = .ok (enD e0) st := ixO_lst (by rw [List.getElem?_map, hk]; rfl)
  simp only [L_has_other, m_L_has_other, Wp_run, WS_seq, WS_for, startE3, Wp_iEm]
  simp [gT, gsCons, gsNil, PR.d, enum_row]
  refine WS_forM (fun ds env s => s = st ∧ ∃ rest : List ((Str × (Int × Int)) × Nat), ds = rest.map enI ∧ (∀ e ∈ rest, EnOk e.1) ∧ v = rest.any (oneO p e0.2 k) ∧ ∃ x y z, env = [some p.d, some (rowD r), some (.int k), some (.str p.kind), some (.str p.a), some (.str p.b), some (.str p.w), some (.int p.n), x, y, z]) (fun d ds env s hI => ?_) (fun env s hI => ?_) _ _ _ ?_
  · obtain ⟨rfl, rest, hds, hok, hany, x, y, z, rfl⟩ := hI
    cases rest with
    | nil => cases hds
    | cons e rest =>
      simp only [List.map_cons, List.cons.injEq] at hds
      obtain ⟨rfl, rfl⟩ := hds
      refine bdL_ok (e := e) (r := r) hp h0 (hok e (List.mem_cons_self ..)) hix ?_
      rw [hany, List.any_cons]
      cases oneO p e0.2 k e with
      | true => exact ⟨rfl, rfl⟩
      | false => exact ⟨rfl, rest, rfl, fun e he => hok e (List.mem_cons_of_mem _ he), by simp, _, _, _, rfl⟩
  · obtain ⟨rfl, rest, hds, _, hany, _⟩ := hI
    cases rest with
    | nil => rw [hany]; exact ⟨rfl, rfl⟩
    | cons e rest => cases hds
  · exact ⟨rfl, _, rfl, fun e he => hr _ (List.fst_mem_of_mem_zipIdx he), hv.symm, _, _, _, rfl⟩
end R
end DL

set_option Elab.async false
set_option linter.all false
set_option maxRecDepth 100000
set_option maxHeartbeats 1000000
namespace DL
open PySem PySem.Spec PyProof.Rows L2
namespace R
variable {st : Sto}
/-- where the rule is broken first -/
def brkAt (p : PR) (r : Row) : List ((Str × (Int × Int)) × Nat) → Option Nat
  | [] => none
  | e :: rest => if (decide (e.1.1 = p.a) && !(r.zipIdx.any (oneO p e.1.2 e.2))) = true then some e.2 else brkAt p r rest
def optD : Option Nat → D
  | none => .non
  | some i => .int (i : Nat)
def bdB (ho : List D → Sto → Out D) : SM := sIf (bAnd (tOf (eOp oEq (eV 3) (eOp ixO (eV 0) (eC (.int 1))))) (bNot (tOf (eCall 3 ho (aCons (eV 0) (aCons (eV 1) (aCons (eV 2) aNil))))))) (sRet (eV 2)) sNx
def mB (ho : List D → Sto → Out D) : SM := (sSeq (sFor (iEm (eV 1)) (gT 2 (gsCons (gN 2) (gsCons (gT 2 (gsCons (gN 3) (gsCons (gN 4) gsNil))) gsNil))) (bdB ho))
    (sRet (eC .non)))
theorem bdB_ok {N : Env' → Sto → Prop} {R : D → Sto → Prop} {E : EK} {ho : List D → Sto → Out D} {p : PR} {q1 q3 : D} {s : Str} {k : Int} {b : Bool} (hs : PyData.strOk s = true) (ha : PyData.strOk p.a = true) (h1 : ho [p.d, q1, .int k] st = .ok (.bl b) st)
    (h : if (decide (s = p.a) && !b) = true then R (.int k) st else N [some p.d, some q1, some (.int k), some (.str s), some q3] st) : WS (bdB ho [some p.d, some q1, some (.int k), some (.str s), some q3] st) N R E := by
  have i1 : ixO p.d (.int 1) st = .ok (.str p.a) st := ixO_tup (i := 1) rfl
  by_cases c : s = p.a
  · cases b
    · simpa [bdB, hs, ha, h1, i1, c] using h
    · simpa [bdB, hs, ha, h1, i1, c] using h
  · simpa [bdB, hs, ha, h1, i1, c] using h
theorem mB_ok {ho : List D → Sto → Out D} {p : PR} {r : Row} (hp : p.Ok) (hr : ∀ e ∈ r, EnOk e) (hh : ∀ (k : Nat) (e0 : Str × (Int × Int)), r[k]? = some e0 → ho [p.d, rowD r, .int k] st = .ok (.bl (r.zipIdx.any (oneO p e0.2 k))) st) : runM 5 (mB ho) [p.d, rowD r] st = .ok (optD (brkAt p r r.zipIdx)) st := by
  generalize hv : brkAt p r r.zipIdx = v
  apply Wp.eq
  simp only [mB, Wp_run, WS_seq, WS_for, startE2, Wp_iEm]
  simp [enum_row]
  refine WS_forM (fun ds env s => s = st ∧ ∃ rest : List ((Str × (Int × Int)) × Nat), ds = rest.map enI ∧ (∀ e ∈ rest, r[e.2]? = some e.1) ∧ v = brkAt p r rest ∧ ∃ x y z, env = [some p.d, some (rowD r), x, y, z]) (fun d ds env s hI => ?_) (fun env s hI => ?_) _ _ _ ?_
  · obtain ⟨rfl, rest, hds, hok, hany, x, y, z, rfl⟩ := hI
    cases rest with
    | nil => cases hds
    | cons e rest =>
      simp only [List.map_cons, List.cons.injEq] at hds
      obtain ⟨rfl, rfl⟩ := hds
      have hm := hok e (List.mem_cons_self ..)
      have he : EnOk e.1 := hr _ (List.mem_of_getElem? hm)
      refine bdB_ok he.s hp.a (hh e.2 e.1 hm) ?_
      unfold brkAt at hany
      split
      · rename_i c
        rw [if_pos c] at hany
        rw [hany]
        exact ⟨rfl, rfl⟩
      · rename_i c
        rw [if_neg c] at hany
        exact ⟨rfl, rest, rfl, fun e he => hok e (List.mem_cons_of_mem _ he), hany, _, _, _, rfl⟩
  · obtain ⟨rfl, rest, hds, _, hany, _⟩ := hI
    cases rest with
    | nil => rw [hany]; exact ⟨rfl, rfl⟩
    | cons e rest => cases hds
  · exact ⟨rfl, _, rfl, fun e he => by simpa using (List.mem_zipIdx_iff_getElem? (x := e)).mp he, hv.symm, _, _, _, rfl⟩
theorem broken_eq {p : PR} {r : Row} (hp : p.Ok) (hr : ∀ e ∈ r, EnOk e) : broken_at [p.d, rowD r] st = .ok (optD (brkAt p r r.zipIdx)) st := mB_ok hp hr fun k e0 hk => has_other_eq hp hr hk
theorem L_broken_eq {p : PR} {r : Row} (hp : p.Ok) (hr : ∀ e ∈ r, EnOk e) : L_broken [p.d, rowD r] st = .ok (optD (brkAt p r r.zipIdx)) st := mB_ok hp hr fun k e0 hk => L_has_other_eq hp hr hk
/-! ### rules -/
inductive Rl where
  | pl (p : PR) | no (r : Rl) | two (b : Bool) (r s : Rl)
def Rl.d : Rl → D
  | .pl p => p.d
  | .no r => .tup [.str "not", r.d]
  | .two true r s => .tup [.str "both", r.d, s.d]
  | .two false r s => .tup [.str "either", r.d, s.d]
def Rl.Ok : Rl → Prop
  | .pl p => p.Ok
  | .no r => r.Ok
  | .two _ r s => r.Ok ∧ s.Ok
def Rl.dep : Rl → Nat
  | .pl _ => 1
  | .no r => r.dep + 1
  | .two _ r s => max r.dep s.dep + 1
def keptB (r : Row) : Rl → Bool
  | .pl p => (brkAt p r r.zipIdx).isNone
  | .no a => !keptB r a
  | .two true a b => keptB r a && keptB r b
  | .two false a b => keptB r a || keptB r b
theorem isN_opt (o : Option Nat) : oIsN (optD o) .non st = .ok (.bl o.isNone) st := by cases o <;> rfl
theorem cut1_2 (a b : D) : cutD [a, b] (some 1) none = [b] := rfl
theorem cut1_3 (a b c : D) : cutD [a, b, c] (some 1) none = [b, c] := rfl
theorem lcM_one {me : EM D} {env0 : Env'} {i : Nat} {a x : D} (h : me (env0.set i (some a)) st = .ok x st) : lcM (gN i) tT me env0 [a] [] st = .ok (.lst [x]) st := by
  simp [lcM, tT, h]
theorem lcM_two {me : EM D} {env0 : Env'} {i : Nat} {a b x y : D} (h : me (env0.set i (some a)) st = .ok x st) (h2 : me (env0.set i (some b)) st = .ok y st) : lcM (gN i) tT me env0 [a, b] [] st = .ok (.lst [x, y]) st := by
  simp [lcM, tT, h, h2]
theorem lx0 {a : D} {r : List D} : ixO (.lst (a :: r)) (.int 0) st = .ok a st := ixO_lst (i := 0) rfl
theorem lx1 {a b : D} {r : List D} : ixO (.lst (a :: b :: r)) (.int 1) st = .ok b st := ixO_lst (i := 1) rfl
theorem tx0 {a : D} {r : List D} : ixO (.tup (a :: r)) (.int 0) st = .ok a st := ixO_tup (i := 0) rfl
theorem kept_eq {r : Row} (hr : ∀ e ∈ r, EnOk e) : ∀ (n : Nat) (a : Rl), a.Ok → a.dep ≤ n → is_kept n [a.d, rowD r] st = .ok (.bl (keptB r a)) st
  | 0, a, _, h => by cases a <;> simp [Rl.dep] at h
  | n + 1, .pl p, ho, h => by
    apply Wp.eq
    have hb := broken_eq (st := st) (p := p) ho hr
    have hk : p.kind = "since" ∨ p.kind = "soon" := PR.Ok.k ho
    have hkk : (decide (p.kind = "since") || decide (p.kind = "soon")) = true := by rcases hk with h | h <;> simp [h]
    have e : Rl.d (.pl p) = p.d := rfl
    have i0 : ixO p.d (.int 0) st = .ok (.str p.kind) st := ixO_tup (i := 0) rfl
    rw [e]
    simp [is_kept, m_is_kept, i0, inO, seqOf, fv, fvs, inV2, hk, hb, isN_opt, keptB]
  | n + 1, .no a, ho, h => by
    apply Wp.eq
    have ih := kept_eq hr n a ho (by simp [Rl.dep] at h; omega)
    have hl : lcM (gN 3) tT (eCall 2 (is_kept n) (aCons (eV 3) (aCons (eV 1) aNil))) [some (.tup [.str "not", a.d]), some (rowD r), none, none] [a.d] [] st = .ok (.lst [.bl (keptB r a)]) st := lcM_one (Wp.eq (by simp [ih]))
    simp (decide := true) [is_kept, m_is_kept, Rl.d, tx0, inO, seqOf, fv, fvs, inV2, Wp_eLc, slO, cut1_2, itemsOf, wipeE, hl, lx0, so_not, keptB]
  | n + 1, .two b a c, ho, h => by
    apply Wp.eq
    have ih := kept_eq hr n a ho.1 (by simp [Rl.dep] at h; omega)
    have ih2 := kept_eq hr n c ho.2 (by simp [Rl.dep] at h; omega)
    cases b with
    | true =>
      have hl : lcM (gN 3) tT (eCall 2 (is_kept n) (aCons (eV 3) (aCons (eV 1) aNil))) [some (.tup [.str "both", a.d, c.d]), some (rowD r), none, none] [a.d, c.d] [] st = .ok (.lst [.bl (keptB r a), .bl (keptB r c)]) st := lcM_two (Wp.eq (by simp [ih])) (Wp.eq (by simp [ih2]))
      simp (decide := true) [is_kept, m_is_kept, Rl.d, tx0, inO, seqOf, fv, fvs, inV2, Wp_eLc, slO, cut1_3, itemsOf, wipeE, hl, lx0, so_not, so_both, keptB, allO, lstOf, bls]
    | false =>
      have hl : lcM (gN 3) tT (eCall 2 (is_kept n) (aCons (eV 3) (aCons (eV 1) aNil))) [some (.tup [.str "either", a.d, c.d]), some (rowD r), none, none] [a.d, c.d] [] st = .ok (.lst [.bl (keptB r a), .bl (keptB r c)]) st := lcM_two (Wp.eq (by simp [ih])) (Wp.eq (by simp [ih2]))
      simp (decide := true) [is_kept, m_is_kept, Rl.d, tx0, inO, seqOf, fv, fvs, inV2, Wp_eLc, slO, cut1_3, itemsOf, wipeE, hl, lx0, so_not, so_both, so_either, keptB, allO, lstOf, bls]
theorem L_keeps_eq {r : Row} (hr : ∀ e ∈ r, EnOk e) : ∀ (n : Nat) (a : Rl), a.Ok → a.dep ≤ n → L_keeps n [a.d, rowD r] st = .ok (.bl (keptB r a)) st
  | 0, a, _, h => by cases a <;> simp [Rl.dep] at h
  | n + 1, .pl p, ho, h => by
    apply Wp.eq
    have hb := L_broken_eq (st := st) (p := p) ho hr
    have hk : p.kind = "since" ∨ p.kind = "soon" := PR.Ok.k ho
    have e : Rl.d (.pl p) = p.d := rfl
    have i0 : ixO p.d (.int 0) st = .ok (.str p.kind) st := ixO_tup (i := 0) rfl
    rw [e]
    simp [L_keeps, m_L_keeps, i0, inO, seqOf, fv, fvs, inV2, hk, hb, isN_opt, keptB]
  | n + 1, .no a, ho, h => by
    apply Wp.eq
    have ih := L_keeps_eq hr n a ho (by simp [Rl.dep] at h; omega)
    have hl : lcM (gN 3) tT (eCall 2 (L_keeps n) (aCons (eV 3) (aCons (eV 1) aNil))) [some (.tup [.str "not", a.d]), some (rowD r), none, none] [a.d] [] st = .ok (.lst [.bl (keptB r a)]) st := lcM_one (Wp.eq (by simp [ih]))
    simp (decide := true) [L_keeps, m_L_keeps, Rl.d, tx0, inO, seqOf, fv, fvs, inV2, Wp_eLc, slO, cut1_2, itemsOf, wipeE, hl, lx0, so_not, keptB]
  | n + 1, .two b a c, ho, h => by
    apply Wp.eq
    have ih := L_keeps_eq hr n a ho.1 (by simp [Rl.dep] at h; omega)
    have ih2 := L_keeps_eq hr n c ho.2 (by simp [Rl.dep] at h; omega)
    cases b with
    | true =>
      have hl : lcM (gN 3) tT (eCall 2 (L_keeps n) (aCons (eV 3) (aCons (eV 1) aNil))) [some (.tup [.str "both", a.d, c.d]), some (rowD r), none, none] [a.d, c.d] [] st = .ok (.lst [.bl (keptB r a), .bl (keptB r c)]) st := lcM_two (Wp.eq (by simp [ih])) (Wp.eq (by simp [ih2]))
      cases h1 : keptB r a <;> simp (decide := true) [L_keeps, m_L_keeps, Rl.d, tx0, inO, seqOf, fv, fvs, inV2, Wp_eLc, slO, cut1_3, itemsOf, wipeE, hl, lx0, lx1, so_not, so_both, keptB, h1]
    | false =>
      have hl : lcM (gN 3) tT (eCall 2 (L_keeps n) (aCons (eV 3) (aCons (eV 1) aNil))) [some (.tup [.str "either", a.d, c.d]), some (rowD r), none, none] [a.d, c.d] [] st = .ok (.lst [.bl (keptB r a), .bl (keptB r c)]) st := lcM_two (Wp.eq (by simp [ih])) (Wp.eq (by simp [ih2]))
      cases h1 : keptB r a <;> simp (decide := true) [L_keeps, m_L_keeps, Rl.d, tx0, inO, seqOf, fv, fvs, inV2, Wp_eLc, slO, cut1_3, itemsOf, wipeE, hl, lx0, lx1, so_not, so_both, so_either, keptB, h1]
end R
end DL

set_option Elab.async false
set_option linter.all false
set_option maxRecDepth 100000
set_option maxHeartbeats 1000000
namespace DL
open PySem PySem.Spec PyProof.Rows L2
namespace R
variable {st : Sto}
/-! ### a list or a tuple -/
def mk (t : Bool) (xs : List D) : D := if t then .tup xs else .lst xs
@[simp] theorem mk_fn (t : Bool) (xs : List D) : isFn (mk t xs) = false := by cases t <;> simp [mk]
@[simp] theorem mk_plainL (t : Bool) (xs : List D) : plainL (mk t xs) = true := by cases t <;> simp [mk, plainL]
@[simp] theorem mk_isL (t : Bool) (xs : List D) : isL (mk t xs) = true := by cases t <;> simp [mk, isL]
@[simp] theorem mk_its (t : Bool) (xs : List D) : its (mk t xs) = some xs := by cases t <;> simp [mk, its]
@[simp] theorem mk_len (t : Bool) (xs : List D) : lenO [mk t xs] st = .ok (.int xs.length) st := by cases t <;> simp [mk, lenO, seqOf]
theorem mk_ix {t : Bool} {xs : List D} {i : Nat} {d : D} (h : xs[i]? = some d) : ixO (mk t xs) (.int i) st = .ok d st := by
  cases t
  · exact ixO_lst h
  · exact ixO_tup h
theorem mk_ix0 (t : Bool) (a : D) (r : List D) : ixO (mk t (a :: r)) (.int 0) st = .ok a st := mk_ix (i := 0) rfl
theorem mk_ix1 (t : Bool) (a b : D) (r : List D) : ixO (mk t (a :: b :: r)) (.int 1) st = .ok b st := mk_ix (i := 1) rfl
theorem mk_ix2 (t : Bool) (a b c : D) (r : List D) : ixO (mk t (a :: b :: c :: r)) (.int 2) st = .ok c st := mk_ix (i := 2) rfl
theorem mk_ix3 (t : Bool) (a b c d : D) (r : List D) : ixO (mk t (a :: b :: c :: d :: r)) (.int 3) st = .ok d st := mk_ix (i := 3) rfl
theorem mk_ix4 (t : Bool) (a b c d e : D) (r : List D) : ixO (mk t (a :: b :: c :: d :: e :: r)) (.int 4) st = .ok e st := mk_ix (i := 4) rfl
theorem mk_sl (t : Bool) (xs : List D) (l h : Option Int) : slO (mk t xs) l h st = .ok (mk t (cutD xs l h)) st := by cases t <;> simp [mk, slO, seqOf]
theorem mk_enum (t : Bool) (xs : List D) : enumD (mk t xs) st = .ok (xs.zipIdx.map fun q => .tup [.int (q.2 : Nat), q.1]) st := by cases t <;> simp [mk, enumD]
theorem mk_tuple (t : Bool) (xs : List D) : tupleO [mk t xs] st = .ok (.tup xs) st := by cases t <;> simp [mk, tupleO, seqOf]
/-! ### the rule as it is shown -/
theorem nameS_ok {s : Str} (h : nameS s = true) : PyData.strOk s = true := by
  have key : ∀ c ∈ letters.cps.toList, c < 0x110000 := by decide +kernel
  unfold nameS at h
  simp only [Bool.and_eq_true, List.all_eq_true, decide_eq_true_eq] at h
  unfold PyData.strOk
  rw [Array.all_eq_true']
  intro c hc
  simpa using key c (h.2 c (by simpa using hc))
theorem nameS_len {s : Str} (h : nameS s = true) : s.length ≤ 100000 := by
  unfold nameS at h
  simp only [Bool.and_eq_true, decide_eq_true_eq] at h
  omega
structure PR.Good (p : PR) : Prop extends p.Ok where
  na : nameS p.a = true
  nb : nameS p.b = true
  sw : p.kind = "soon" → p.w = "upto" ∨ p.w = "below"
def Rl.Good : Rl → Prop
  | .pl p => p.Good
  | .no r => r.Good
  | .two _ r s => r.Good ∧ s.Good
theorem Rl.Good.ok : ∀ {a : Rl}, a.Good → a.Ok
  | .pl p, h => PR.Good.toOk h
  | .no r, h => Rl.Good.ok (a := r) h
  | .two _ r s, h => ⟨Rl.Good.ok (a := r) h.1, Rl.Good.ok (a := s) h.2⟩
def PR.l (p : PR) : List D := [.str p.kind, .str p.a, .str p.b, .str p.w, .int p.n]
def twoW (b : Bool) : Str := if b then "both" else "either"
inductive ShR : Rl → D → Prop
  | pl (t : Bool) (p : PR) : ShR (.pl p) (mk t p.l)
  | no (t : Bool) {r : Rl} {d : D} : ShR r d → ShR (.no r) (mk t [.str "not", d])
  | two (t b : Bool) {r s : Rl} {d e : D} : ShR r d → ShR s e → ShR (.two b r s) (mk t [.str (twoW b), d, e])
def kvs5 : List (Str × D) := [("since", .int 5), ("soon", .int 5), ("not", .int 2), ("both", .int 3), ("either", .int 3)]
theorem kd_since : kvs5.lookup ("since" : Str) = some (D.int 5) := by rfl
theorem kd_soon : kvs5.lookup ("soon" : Str) = some (D.int 5) := by rfl
theorem kd_not : kvs5.lookup ("not" : Str) = some (D.int 2) := by rfl
theorem kd_both : kvs5.lookup ("both" : Str) = some (D.int 3) := by rfl
theorem kd_either : kvs5.lookup ("either" : Str) = some (D.int 3) := by rfl
theorem kdI {z : Str} {d : D} (h : kvs5.lookup z = some d) : kdIn true [("since", .int 5), ("soon", .int 5), ("not", .int 2), ("both", .int 3), ("either", .int 3)] (.str z) st = .ok (.bl false) st := by
  have h' : ([("since", .int 5), ("soon", .int 5), ("not", .int 2), ("both", .int 3), ("either", .int 3)] : List (Str × D)).lookup z = some d := h
  unfold kdIn
  dsimp only
  rw [h']
  rfl
theorem kdA {z : Str} {d : D} (h : kvs5.lookup z = some d) : kdAt [("since", .int 5), ("soon", .int 5), ("not", .int 2), ("both", .int 3), ("either", .int 3)] (.str z) st = .ok d st := by
  have h' : ([("since", .int 5), ("soon", .int 5), ("not", .int 2), ("both", .int 3), ("either", .int 3)] : List (Str × D)).lookup z = some d := h
  unfold kdAt
  dsimp only
  rw [h']
theorem inV4 (a b c d e : Str) : inV (.str a) [.str b, .str c, .str d, .str e] = (decide (a = b) || (decide (a = c) || (decide (a = d) || decide (a = e)))) := by
  have sw : ∀ x y : Str, (x == y) = decide (y = x) := fun x y => by rw [beq_dec]; exact decide_eq_decide.mpr ⟨Eq.symm, Eq.symm⟩
  simp only [inV, List.any_cons, List.any_nil, Bool.or_false]
  show ((b == a) || ((c == a) || ((d == a) || (e == a)))) = _
  rw [sw, sw, sw, sw]
theorem is_of2 (w a b : Str) : is_of [.str w, .tup [.str a, .str b]] st = .ok (.bl (decide (w = a) || decide (w = b))) st := by
  apply Wp.eq
  simp [is_of, m_is_of, tyN, isaB, inO, seqOf, fv, fvs, inV2]
theorem is_of4 (w a b c d : Str) : is_of [.str w, .tup [.str a, .str b, .str c, .str d]] st = .ok (.bl (decide (w = a) || (decide (w = b) || (decide (w = c) || decide (w = d))))) st := by
  apply Wp.eq
  simp [is_of, m_is_of, tyN, isaB, inO, seqOf, fv, fvs, inV4]
theorem WS_cons {N : Env' → Sto → Prop} {R : D → Sto → Prop} {E : EK} {g : GM} {mb : SM} {d : D} {ds : List D} {env : Env'} (h : WG (g d env st) fun e s => WS (mb e s) (fun e s => WS (forM g mb ds e s) N R E) R E) : WS (forM g mb (d :: ds) env st) N R E := by
  unfold forM
  cases q : g d env st with
  | none => rw [q] at h; exact h.elim
  | some p =>
    obtain ⟨e, s⟩ := p
    rw [q] at h
    have h2 : WS (mb e s) (fun e s => WS (forM g mb ds e s) N R E) R E := h
    dsimp only
    cases q2 : mb e s with
    | nx e2 s2 => rw [q2] at h2; exact h2
    | rt d s2 => rw [q2] at h2; exact h2
    | err c fs e2 s2 => rw [q2] at h2; exact h2
    | bk _ _ => rw [q2] at h2; exact h2.elim
    | ct _ _ => rw [q2] at h2; exact h2.elim
    | bad => rw [q2] at h2; exact h2.elim
theorem rule_pl {n : Nat} {p : PR} {t : Bool} {q : D} (hp : p.Good) : rule_at (n + 1) [mk t p.l, q] st = .ok p.d st := by
  apply Wp.eq
  have n1 := is_name_str (st := st) (nameS_len hp.na)
  have n2 := is_name_str (st := st) (nameS_len hp.nb)
  rw [hp.na] at n1
  rw [hp.nb] at n2
  have h0 := hp.n0
  have na : is_natural [.int p.n] st = .ok (.bl true) st := by
    rw [is_natural_eq (by simp)]
    simp [isNat, h0]
  have tup : oAdd (.tup [.str "below", .str "upto"]) (.tup [.str "from", .str "above"]) st = .ok (.tup [.str "below", .str "upto", .str "from", .str "above"]) st := by
    simp [oAdd]
  have e1 : ([D.bl true, D.bl true, D.bl true, D.bl true].zipIdx.map fun q => D.tup [.int (q.2 : Nat), q.1]) = [D.tup [.int (0 : Nat), .bl true], D.tup [.int (1 : Nat), .bl true], D.tup [.int (2 : Nat), .bl true], D.tup [.int (3 : Nat), .bl true]] := rfl
  rcases hp.k with hk | hk
  · have ow : (decide (p.w = "below") || (decide (p.w = "upto") || (decide (p.w = "from") || decide (p.w = "above")))) = true := by
      rcases hp.w with h | h | h | h <;> simp [h]
    simp (decide := true) [rule_at, m_rule_at, PR.l, hk, mk_ix0, mk_ix1, mk_ix2, mk_ix3, mk_ix4, tyN, isaB, kdI kd_since, kdA kd_since, inO, seqOf, fv, fvs, inV2, so_since, so_soon, n1, n2, na, tup, is_of4, ow, WS_for, enumD, isNat, h0]
    iterate 4 (refine WS_cons ?_; simp [gT, gsCons, gsNil])
    simp [forM, mk_tuple, PR.d, hk]
  · have ow : (decide (p.w = "below") || decide (p.w = "upto")) = true := by
      rcases hp.sw hk with h | h <;> simp [h]
    simp (decide := true) [rule_at, m_rule_at, PR.l, hk, mk_ix0, mk_ix1, mk_ix2, mk_ix3, mk_ix4, tyN, isaB, kdI kd_soon, kdA kd_soon, inO, seqOf, fv, fvs, inV2, so_since, so_soon, n1, n2, na, is_of2, ow, WS_for, enumD, isNat, h0]
    iterate 4 (refine WS_cons ?_; simp [gT, gsCons, gsNil])
    simp [forM, mk_tuple, PR.d, hk]

theorem rule_eq : ∀ (n : Nat) {a : Rl} {d : D} (ps : List D), ShR a d → a.Good → a.dep ≤ n → ps.length + n ≤ 1000 → rule_at n [d, .tup ps] st = .ok a.d st
  | 0, a, _, _, _, _, h, _ => by cases a <;> simp [Rl.dep] at h
  | n + 1, _, _, ps, .pl t p, hg, _, _ => rule_pl hg
  | n + 1, .no r, _, ps, .no t (d := d) hs, hg, h, hl => by
    apply Wp.eq
    have ih := rule_eq n (ps ++ [.int 1]) hs hg (by simp [Rl.dep] at h; omega) (by simp; omega)
    have hz : ps.length + 1 ≤ 100000 := by omega
    have hlc : lcM (gT 2 (gsCons (gN 5) (gsCons (gN 7) gsNil))) tT (eCall 2 (rule_at n) (aCons (eV 7) (aCons (eTup (aStar (eV 1) (aCons (eOp oAdd (eV 5) (eC (.int 1))) aNil))) aNil))) [some (mk t [.str "not", d]), some (.tup ps), none, none, none, none, none, none] [.tup [.int 0, d]] [] st = .ok (.lst [r.d]) st := by
      apply Wp.eq
      refine Wp_lcM (fun ds acc s => s = st ∧ ((ds = [.tup [.int 0, d]] ∧ acc = []) ∨ (ds = [] ∧ acc = [r.d]))) (fun x ds acc s hI => ?_) (fun acc s hI => ?_) _ _ _ ⟨rfl, .inl ⟨rfl, rfl⟩⟩
      · obtain ⟨rfl, ⟨h1, rfl⟩ | ⟨h1, _⟩⟩ := hI
        · cases h1
          simp [gT, gsCons, gsNil, seqOf, hz, ih]
        · cases h1
      · obtain ⟨rfl, ⟨h1, _⟩ | ⟨_, rfl⟩⟩ := hI
        · cases h1
        · exact ⟨rfl, rfl⟩
    simp (decide := true) [rule_at, m_rule_at, mk_ix0, tyN, isaB, kdI kd_not, kdA kd_not, inO, seqOf, fv, fvs, inV2, Wp_eLc, mk_sl, cut1_2, mk_enum, wipeE, hlc, Rl.d]
  | n + 1, .two b r r2, _, ps, .two t _ (d := d) (e := e) hs hs2, hg, h, hl => by
    apply Wp.eq
    have ih := rule_eq n (ps ++ [.int 1]) hs hg.1 (by simp [Rl.dep] at h; omega) (by simp; omega)
    have ih2 := rule_eq n (ps ++ [.int 2]) hs2 hg.2 (by simp [Rl.dep] at h; omega) (by simp; omega)
    have hz : ps.length + 1 ≤ 100000 := by omega
    have hlc : lcM (gT 2 (gsCons (gN 5) (gsCons (gN 7) gsNil))) tT (eCall 2 (rule_at n) (aCons (eV 7) (aCons (eTup (aStar (eV 1) (aCons (eOp oAdd (eV 5) (eC (.int 1))) aNil))) aNil))) [some (mk t [.str (twoW b), d, e]), some (.tup ps), none, none, none, none, none, none] [.tup [.int 0, d], .tup [.int 1, e]] [] st = .ok (.lst [r.d, r2.d]) st := by
      apply Wp.eq
      refine Wp_lcM (fun ds acc s => s = st ∧ ((ds = [.tup [.int 0, d], .tup [.int 1, e]] ∧ acc = []) ∨ (ds = [.tup [.int 1, e]] ∧ acc = [r.d]) ∨ (ds = [] ∧ acc = [r.d, r2.d]))) (fun x ds acc s hI => ?_) (fun acc s hI => ?_) _ _ _ ⟨rfl, .inl ⟨rfl, rfl⟩⟩
      · obtain ⟨rfl, ⟨h1, rfl⟩ | ⟨h1, rfl⟩ | ⟨h1, _⟩⟩ := hI
        · cases h1
          simp [gT, gsCons, gsNil, seqOf, hz, ih]
        · cases h1
          simp [gT, gsCons, gsNil, seqOf, hz, ih2]
        · cases h1
      · obtain ⟨rfl, ⟨h1, _⟩ | ⟨h1, _⟩ | ⟨_, rfl⟩⟩ := hI
        · cases h1
        · cases h1
        · exact ⟨rfl, rfl⟩
    cases b with
    | true =>
      rw [show twoW true = "both" from rfl] at hlc ⊢
      simp (decide := true) [rule_at, m_rule_at, mk_ix0, tyN, isaB, kdI kd_both, kdA kd_both, inO, seqOf, fv, fvs, inV2, Wp_eLc, mk_sl, cut1_3, mk_enum, wipeE, hlc, Rl.d]
    | false =>
      rw [show twoW false = "either" from rfl] at hlc ⊢
      simp (decide := true) [rule_at, m_rule_at, mk_ix0, tyN, isaB, kdI kd_either, kdA kd_either, inO, seqOf, fv, fvs, inV2, Wp_eLc, mk_sl, cut1_3, mk_enum, wipeE, hlc, Rl.d]
theorem checked_rule_eq {a : Rl} {d : D} (hs : ShR a d) (hg : a.Good) (h : a.dep ≤ 8) : checked_rule [d] st = .ok a.d st := by
  apply Wp.eq
  have := rule_eq (st := st) 8 [] hs hg h (by simp)
  simp [checked_rule, m_checked_rule, this]
end R
end DL

set_option Elab.async false
set_option linter.all false
set_option maxRecDepth 100000
set_option maxHeartbeats 1000000
namespace DL
open PySem PySem.Spec PyProof.Rows L2
namespace R
variable {st : Sto}
inductive F2 {α β : Type} (R : α → β → Prop) : List α → List β → Prop
  | nil : F2 R [] []
  | cons {a : α} {b : β} {l1 : List α} {l2 : List β} : R a b → F2 R l1 l2 → F2 R (a :: l1) (b :: l2)
abbrev ixF (k : Int) : List (Str × D) := [(("index" : Str), D.int k)]
/-! ### rows as they are shown -/
theorem low_mul {p q m : Int} (hq : 0 < q) (hm : 0 < m) (hg : g2 p q = 1) : low (p * m) (q * m) = (p, q) := by
  have e : g2 (p * m) (q * m) = m.natAbs := by
    unfold g2
    rw [Int.natAbs_mul, Int.natAbs_mul, Nat.gcd_mul_right]
    unfold g2 at hg
    rw [hg, Nat.one_mul]
  have e2 : (m.natAbs : Int) = m := by omega
  unfold low
  rw [e, e2, Int.mul_ediv_cancel _ (by omega), Int.mul_ediv_cancel _ (by omega)]
structure EnGood (e : Str × (Int × Int)) : Prop where
  s : nameS e.1 = true
  f : Fr e.2
theorem EnGood.ok {e : Str × (Int × Int)} (h : EnGood e) : EnOk e := ⟨nameS_ok h.s, h.f⟩
/-- an entry as it is shown -/
def ShE (e : Str × (Int × Int)) (d : D) : Prop := ∃ (t u : Bool) (m : Int), 0 < m ∧ m < 100 ∧ d = mk t [.str e.1, mk u [.int (e.2.1 * m), .int (e.2.2 * m)]]
theorem mk_true (xs : List D) : mk true xs = .tup xs := rfl
theorem mk_false (xs : List D) : mk false xs = .lst xs := rfl
theorem shE_self (e : Str × (Int × Int)) : ShE e (enD e) := ⟨true, true, 1, by omega, by omega, by simp [mk_true, enD, frD]⟩
theorem is_frac_mk {u : Bool} {a b : Int} (hb : 0 < b) : is_frac [mk u [.int a, .int b]] st = .ok (.bl true) st := by
  apply Wp.eq
  have hb' : (1 : Int) ≤ b := by omega
  simp [is_frac, m_is_frac, isP, mk_ix0, mk_ix1, isI, hb']
theorem is_time_mk {u : Bool} {a b : Int} (ha : 0 ≤ a) (hb : 0 < b) : is_time [mk u [.int a, .int b]] st = .ok (.bl true) st := by
  apply Wp.eq
  simp [is_time, m_is_time, is_frac_mk hb, mk_ix0, ha]
theorem frac_of_mk {u : Bool} {a b : Int} (hb : 0 < b) (h2 : b < 2 ^ 200) : frac_of [mk u [.int a, .int b]] st = .ok (frD (low a b)) st := by
  apply Wp.eq
  simp [frac_of, m_frac_of, mk_ix0, mk_ix1, lowest_eq hb h2]
def tst : EM Bool := (bOr (bNot (tOf (eCall 1 is_pair (aCons (eV 4) aNil)))) (bOr (bNot (tOf (eCall 1 is_name (aCons (eOp ixO (eV 4) (eC (.int 0))) aNil)))) (bOr (bNot (tOf (eCall 1 is_time (aCons (eOp ixO (eV 4) (eC (.int 1))) aNil)))) (tOf (eCall 2 is_less (aCons (eCall 1 frac_of (aCons (eOp ixO (eV 4) (eC (.int 1))) aNil)) (aCons (eV 2) aNil)))))))
def bdT : SM := (sSeq (sIf tst (sRaise "BadRow" "index" (eV 3)) sNx)
    (sSeq (sAsg (eCall 1 frac_of (aCons (eOp ixO (eV 4) (eC (.int 1))) aNil)) (gN 2))
    (sExp (eBM isCel appO (eV 1) (aCons (eTup (aCons (eOp ixO (eV 4) (eC (.int 0))) (aCons (eV 2) aNil))) aNil)))))
theorem m_timed : m_checked_timed = (sSeq (sIf (bNot (tOf (eCall 1 is_list (aCons (eV 0) aNil)))) (sRaise "BadRow" "index" (eC (.int 0))) sNx)
    (sSeq (sPar 1 2 (aCons (eCel aNil) (aCons (eC (.tup [.int 0, .int 1])) aNil)))
    (sSeq (sFor (iEm (eV 0)) (gT 2 (gsCons (gN 3) (gsCons (gN 4) gsNil))) bdT)
    (sRet (eFz (eV 1)))))) := rfl
theorem cel_last {ds : List D} : (st ++ [Cell.lst ds])[st.length]? = some (.lst ds) := by simp
theorem set_last {ds es : List D} : (st ++ [Cell.lst ds]).set st.length (.lst es) = st ++ [Cell.lst es] := by
  rw [List.set_append_right _ _ (Nat.le_refl _)]
  simp
theorem bdT_good {N : Env' → Sto → Prop} {R : D → Sto → Prop} {E : EK} {e : Str × (Int × Int)} {d q : D} {l : Int × Int} {k : Int} {ds : List D} (he : EnGood e) (hs : ShE e d) (hl : Fr l) (hle : ¬ e.2.1 * l.2 < l.1 * e.2.2) (hn : ds.length < 1000)
    (h : N [some q, some (.cel st.length), some (frD e.2), some (.int k), some d] (st ++ [.lst (ds ++ [enD e])])) :
    WS (bdT [some q, some (.cel st.length), some (frD l), some (.int k), some d] (st ++ [.lst ds])) N R E := by
  obtain ⟨t, u, m, m0, m1, rfl⟩ := hs
  have hf := he.f
  have d0 := hf.d0; have d1 := hf.d1; have n0 := hf.n0
  have hb : 0 < e.2.2 * m := Int.mul_pos d0 m0
  have hb2 : e.2.2 * m < 2 ^ 200 := (mul60 d0 m0 d1 (by omega)).2
  have ha : 0 ≤ e.2.1 * m := Int.mul_nonneg n0 (by omega)
  have lo : low (e.2.1 * m) (e.2.2 * m) = e.2 := by rw [low_mul d0 m0 hf.lo]
  have nm := is_name_str (st := st ++ [Cell.lst ds]) (nameS_len he.s)
  rw [he.s] at nm
  have hn' : ds.length < 100000 := by omega
  simp only [bdT, tst, WS_seq, WS_if, Wp_bOr, Wp_bNot, Wp_tOf, Wp_eCall, Wp_aCons, Wp_aNil, Wp_eV]
  simp [isP, mk_ix0, mk_ix1, nm, is_time_mk ha hb, frac_of_mk hb hb2, lo, is_less_eq hf hl, hle, isCel, cel_last, appO, celAt, hn', set_last]
  exact h
/-- an entry that is refused behind the time l -/
def OddAt (l : Int × Int) (x : D) : Prop := ∀ (q c i : D) (s : Sto), Wp (tst [some q, some c, some (frD l), some i, some x] s) (fun b s' => b = true ∧ s' = s) E_
theorem bdT_odd {N : Env' → Sto → Prop} {R : D → Sto → Prop} {E : EK} {d q c : D} {l : Int × Int} {k : Int} (ho : OddAt l d) (h : E "BadRow" (ixF k) st) : WS (bdT [some q, some c, some (frD l), some (.int k), some d] st) N R E := by
  unfold bdT
  rw [WS_seq, WS_if]
  refine (ho q c (.int k) st).mp fun b s hb => ?_
  obtain ⟨rfl, rfl⟩ := hb
  simpa using h
def Srt : (Int × Int) → Row → Prop
  | _, [] => True
  | l, e :: r => ¬ (e.2.1 * l.2 < l.1 * e.2.2) ∧ Srt e.2 r
def lastT : (Int × Int) → Row → (Int × Int)
  | l, [] => l
  | _, e :: r => lastT e.2 r
/-- the loop over good entries, then what comes behind -/
theorem timed_loop {N : Env' → Sto → Prop} {R : D → Sto → Prop} {E : EK} {q : D} : ∀ (r : Row) (ds rest : List D) (i : Nat) (l : Int × Int) (acc : List D) (x y : Option D), F2 ShE r ds → (∀ e ∈ r, EnGood e) → Fr l → Srt l r → acc.length + r.length < 1000 →
    (∀ x y, WS (forM (gT 2 (gsCons (gN 3) (gsCons (gN 4) gsNil))) bdT ((rest.zipIdx (i + r.length)).map fun q => .tup [.int (q.2 : Nat), q.1]) [some q, some (.cel st.length), some (frD (lastT l r)), x, y] (st ++ [.lst (acc ++ r.map enD)])) N R E) →
    WS (forM (gT 2 (gsCons (gN 3) (gsCons (gN 4) gsNil))) bdT (((ds ++ rest).zipIdx i).map fun q => .tup [.int (q.2 : Nat), q.1]) [some q, some (.cel st.length), some (frD l), x, y] (st ++ [.lst acc])) N R E
  | [], _, rest, i, l, acc, x, y, .nil, _, _, _, _, h => by simpa [lastT] using h x y
  | e :: r, _, rest, i, l, acc, x, y, .cons (l2 := ds) (b := d) hs hr, hg, hl, hso, hn, h => by
    have hn' : acc.length + (r.length + 1) < 1000 := hn
    rw [List.cons_append, List.zipIdx_cons, List.map_cons]
    refine WS_cons ?_
    simp only [gT, gsCons, gsNil, List.length_cons, List.length_nil, gN_eq, List.set_cons_succ, List.set_cons_zero, WG_some, if_true]
    refine bdT_good (hg e (List.mem_cons_self ..)) hs hl hso.1 (by omega) ?_
    refine timed_loop r ds rest (i + 1) e.2 (acc ++ [enD e]) _ _ hr (fun a ha => hg a (List.mem_cons_of_mem _ ha)) (hg e (List.mem_cons_self ..)).f hso.2 (by simp; omega) fun x y => ?_
    have := h x y
    simpa [lastT, Nat.add_assoc, Nat.add_comm 1] using this
theorem fr01 : Fr (0, 1) := ⟨by decide, by decide, by decide, by decide, by decide⟩
structure RowGood (r : Row) : Prop where
  g : ∀ e ∈ r, EnGood e
  s : Srt (0, 1) r
  n : r.length < 1000
def ShRow (r : Row) (d : D) : Prop := ∃ (t : Bool) (ds : List D), d = mk t ds ∧ F2 ShE r ds
theorem timed_good {r : Row} {d : D} (hr : RowGood r) (hs : ShRow r d) : checked_timed [d] st = .ok (rowD r) (st ++ [.fz (r.map enD)]) := by
  obtain ⟨t, ds, rfl, hf⟩ := hs
  apply Wp.eq
  rw [checked_timed, m_timed]
  simp only [Wp_run, WS_seq, WS_for, startE1, Wp_iEm]
  simp [mk_enum]
  have := timed_loop (st := st) (N := fun e s => WS (sRet (eFz (eV 1)) e s) (fun _ s => D.non = rowD r ∧ s = st ++ [.fz (r.map enD)]) (fun b s => b = rowD r ∧ s = st ++ [.fz (r.map enD)]) E_) (R := fun b s => b = rowD r ∧ s = st ++ [.fz (r.map enD)]) (E := E_) (q := mk t ds) r ds [] 0 (0, 1) [] none none hf hr.g fr01 hr.s (by have := hr.n; simp; omega) (fun x y => ?_)
  · simpa [frD] using this
  · simp [forM, fzD, cel_last, rowD]
theorem timed_bad {r : Row} {ds rest : List D} {o : D} (hg : ∀ e ∈ r, EnGood e) (hs : Srt (0, 1) r) (hn : r.length < 1000) (hf : F2 ShE r ds) (ho : OddAt (lastT (0, 1) r) o) : Wp (checked_timed [.lst (ds ++ o :: rest)] st) (fun _ _ => False) (fun c fs s => c = "BadRow" ∧ fs = ixF (r.length : Nat) ∧ ∃ x, s = st ++ [x]) := by
  rw [checked_timed, m_timed]
  simp only [Wp_run, WS_seq, WS_for, startE1, Wp_iEm]
  simp [isL, enumD]
  have := timed_loop (st := st) (N := fun e s => WS (sRet (eFz (eV 1)) e s) (fun _ s => False) (fun b s => False) (fun c fs s => c = "BadRow" ∧ fs = ixF (r.length : Nat) ∧ ∃ x, s = st ++ [x])) (R := fun b s => False) (E := fun c fs s => c = "BadRow" ∧ fs = ixF (r.length : Nat) ∧ ∃ x, s = st ++ [x]) (q := .lst (ds ++ o :: rest)) r ds (o :: rest) 0 (0, 1) [] none none hf hg fr01 hs (by simp; omega) (fun x y => ?_)
  · simpa [frD] using this
  · rw [List.zipIdx_cons, List.map_cons]
    refine WS_cons ?_
    simp only [gT, gsCons, gsNil, List.length_cons, List.length_nil, gN_eq, List.set_cons_succ, List.set_cons_zero, WG_some, if_true]
    refine bdT_odd ho ⟨rfl, ?_, _, rfl⟩
    simp
theorem timed_none {d : D} (h : isFn d = false) (hl : isL d = false) : checked_timed [d] st = .err "BadRow" (ixF 0) st := by
  have : Wp (checked_timed [d] st) (fun _ _ => False) (fun c fs s => c = "BadRow" ∧ fs = ixF 0 ∧ s = st) := by
    rw [checked_timed, m_timed]
    simp [h, hl]
  cases q : checked_timed [d] st with
  | ok a s => rw [q] at this; exact this.elim
  | bad => rw [q] at this; exact this.elim
  | err c fs s =>
    rw [q] at this
    obtain ⟨rfl, rfl, rfl⟩ := (show c = "BadRow" ∧ fs = ixF 0 ∧ s = st from this)
    rfl
end R
end DL

set_option Elab.async false
set_option linter.all false
set_option maxRecDepth 100000
set_option maxHeartbeats 1000000
namespace DL
open PySem PySem.Spec PyProof.Rows L2
namespace R
variable {st : Sto}
/-! ### the two questions -/
theorem keeps_good {a : Rl} {d e : D} {r : Row} (hs : ShR a d) (hg : a.Good) (hd : a.dep ≤ 8) (hr : RowGood r) (he : ShRow r e) : ∃ x, keeps [d, e] st = .ok (.bl (keptB r a)) (st ++ [x]) := by
  refine ⟨.fz (r.map enD), ?_⟩
  apply Wp.eq
  have h1 := checked_rule_eq (st := st) hs hg hd
  have h2 := timed_good (st := st) hr he
  have h3 := kept_eq (st := st ++ [.fz (r.map enD)]) (fun e he => (hr.g e he).ok) 8 a hg.ok hd
  simp [keeps, m_keeps, h1, h2, h3]
/-- a row that is refused at k -/
def Refd (b : D) (k : Int) : Prop := ∀ st : Sto, ∃ ext, checked_timed [b] st = .err "BadRow" (ixF k) (st ++ ext)
theorem err_of {α : Type} {x : Out α} {c : Str} {fs : List (Str × D)} {s : Sto} (h : Wp x (fun _ _ => False) (fun c' fs' s' => c' = c ∧ fs' = fs ∧ s' = s)) : x = .err c fs s := by
  cases x with
  | ok a s => exact h.elim
  | bad => exact h.elim
  | err c' fs' s' => obtain ⟨rfl, rfl, rfl⟩ := (show c' = c ∧ fs' = fs ∧ s' = s from h); rfl
theorem keeps_bad {a : Rl} {d b : D} {k : Int} (hs : ShR a d) (hg : a.Good) (hd : a.dep ≤ 8) (hb : Refd b k) : ∃ ext, keeps [d, b] st = .err "BadRow" (ixF k) (st ++ ext) := by
  obtain ⟨ext, h2⟩ := hb st
  refine ⟨ext, ?_⟩
  apply err_of
  have h1 := checked_rule_eq (st := st) hs hg hd
  simp [keeps, m_keeps, h1, h2]
theorem pl_of {a : Rl} : (∃ p, a = .pl p) ∨ ∀ p, a ≠ .pl p := by
  cases a with
  | pl p => exact .inl ⟨p, rfl⟩
  | no r => exact .inr fun p h => by cases h
  | two b r s => exact .inr fun p h => by cases h
theorem plain_pl {p : PR} {d : D} (hs : ShR (.pl p) d) (hg : p.Good) : check_plain [d] st = .ok p.d st := by
  apply Wp.eq
  have h1 := checked_rule_eq (st := st) hs hg (by simp [Rl.dep])
  have e : Rl.d (.pl p) = p.d := rfl
  rw [e] at h1
  have i0 : ixO p.d (.int 0) st = .ok (.str p.kind) st := ixO_tup (i := 0) rfl
  rcases hg.k with hk | hk <;> simp [check_plain, m_check_plain, h1, i0, inO, seqOf, fv, fvs, inV2, hk]
theorem plain_not {a : Rl} {d : D} (hs : ShR a d) (hg : a.Good) (hd : a.dep ≤ 8) (hn : ∀ p, a ≠ .pl p) : check_plain [d] st = .err "NotPlain" [(("rule" : Str), d)] st := by
  apply err_of
  have h1 := checked_rule_eq (st := st) hs hg hd
  cases a with
  | pl p => exact absurd rfl (hn p)
  | no r => simp (decide := true) [check_plain, m_check_plain, h1, Rl.d, tx0, inO, seqOf, fv, fvs, inV2]
  | two b r s => cases b <;> simp (decide := true) [check_plain, m_check_plain, h1, Rl.d, tx0, inO, seqOf, fv, fvs, inV2]
theorem first_good {p : PR} {d e : D} {r : Row} (hs : ShR (.pl p) d) (hg : p.Good) (hr : RowGood r) (he : ShRow r e) : ∃ x, first_broken [d, e] st = .ok (optD (brkAt p r r.zipIdx)) (st ++ [x]) := by
  refine ⟨.fz (r.map enD), ?_⟩
  apply Wp.eq
  have h1 := plain_pl (st := st) hs hg
  have h2 := timed_good (st := st) hr he
  have h3 := broken_eq (st := st ++ [.fz (r.map enD)]) hg.toOk (fun e he => (hr.g e he).ok)
  simp [first_broken, m_first_broken, h1, h2, h3]
theorem first_bad {p : PR} {d b : D} {k : Int} (hs : ShR (.pl p) d) (hg : p.Good) (hb : Refd b k) : ∃ ext, first_broken [d, b] st = .err "BadRow" (ixF k) (st ++ ext) := by
  obtain ⟨ext, h2⟩ := hb st
  refine ⟨ext, ?_⟩
  apply err_of
  have h1 := plain_pl (st := st) hs hg
  simp [first_broken, m_first_broken, h1, h2]
theorem first_not {a : Rl} {d b : D} (hs : ShR a d) (hg : a.Good) (hd : a.dep ≤ 8) (hn : ∀ p, a ≠ .pl p) : first_broken [d, b] st = .err "NotPlain" [(("rule" : Str), d)] st := by
  apply err_of
  have h1 := plain_not (st := st) hs hg hd hn
  simp [first_broken, m_first_broken, h1]
/-! ### draws -/
def Src (n b : Nat) (st : Sto) : Prop := ∃ g s c : Int, st[n]? = some (.lst [.int g, .int s, .int c]) ∧ -(2 ^ 31) < s ∧ s < 2 ^ 31 ∧ 0 ≤ c ∧ c ≤ b
def Keep (n : Nat) (st st' : Sto) : Prop := st.length ≤ st'.length ∧ ∀ i, i < st.length → i ≠ n → st'[i]? = st[i]?
theorem Keep.refl (n : Nat) (st : Sto) : Keep n st st := ⟨Nat.le_refl _, fun _ _ _ => rfl⟩
theorem Keep.trans {n : Nat} {a b c : Sto} (h : Keep n a b) (h2 : Keep n b c) : Keep n a c := ⟨Nat.le_trans h.1 h2.1, fun i hi hn => by rw [h2.2 i (by have := h.1; omega) hn, h.2 i hi hn]⟩
theorem Keep.app (n : Nat) (st ext : Sto) : Keep n st (st ++ ext) := ⟨by simp, fun i hi _ => List.getElem?_append_left hi⟩
theorem Src.lt {n b : Nat} (h : Src n b st) : n < st.length := by
  obtain ⟨g, s, c, h, _⟩ := h
  exact (List.getElem?_eq_some_iff.mp h).1
theorem Src.app {n b : Nat} {ext : Sto} (h : Src n b st) : Src n b (st ++ ext) := by
  have hl := h.lt
  obtain ⟨g, s, c, h, r⟩ := h
  exact ⟨g, s, c, by rw [List.getElem?_append_left hl]; exact h, r⟩
theorem Src.mono {n b b' : Nat} (h : Src n b st) (hb : b ≤ b') : Src n b' st := by
  obtain ⟨g, s, c, h, h1, h2, h3, h4⟩ := h
  exact ⟨g, s, c, h, h1, h2, h3, by omega⟩
theorem cx {ds : List D} {n i : Nat} {d : D} (h : st[n]? = some (.lst ds)) (hi : ds[i]? = some d) : ixO (.cel n) (.int i) st = .ok d st := by
  unfold ixO seqOf
  simp [h, Cell.get, atI_nat hi]
theorem put {ds : List D} {n i : Nat} {v : D} (h : st[n]? = some (.lst ds)) (hi : i < ds.length) : putAt (.cel n) (.int i) v st = some (st.set n (.lst (ds.set i v))) := by
  have : ixN ds.length (i : Int) = some i := by
    unfold ixN
    rw [if_pos (by omega), if_pos (by omega)]
    simp
  unfold putAt
  simp [h, this]
theorem Keep.set {n : Nat} {c : Cell} : Keep n st (st.set n c) := ⟨by simp, fun i _ hn => List.getElem?_set_ne (Ne.symm hn)⟩
theorem pow_lt64 {a : Int} (h1 : -(2 ^ 63) < a) (h2 : a < 2 ^ 63) (j : Int) (h3 : 0 ≤ j) (h4 : j ≤ 1000) : cPow a j = true := by
  unfold cPow
  have : a.natAbs < 2 ^ 64 := by omega
  simp [h3, this]
  omega
theorem pow_ex {a : Int} (j : Int) (h1 : -(2 ^ 63) < a) (h2 : a < 2 ^ 63) (h3 : 0 ≤ j) (h4 : j ≤ 1000) : ∃ x, oPow (.int a) (.int j) st = .ok (.int x) st := ⟨_, oPow_ii (pow_lt64 h1 h2 j h3 h4)⟩
theorem mod_ex (a : Int) {m : Int} (h : 0 < m) : ∃ x, oMod (.int a) (.int m) st = .ok (.int x) st ∧ 0 ≤ x ∧ x < m := ⟨_, oMod_ii h, Int.emod_nonneg a (by omega), Int.emod_lt_of_pos a h⟩
theorem mul_ex {a b : Int} (h : cMul a b = true) : ∃ x, oMul (.int a) (.int b) st = .ok (.int x) st ∧ x = a * b := ⟨_, oMul_ii h, rfl⟩
end R
end DL

set_option Elab.async false
set_option linter.all false
set_option maxRecDepth 100000
set_option maxHeartbeats 1000000
namespace DL
open PySem PySem.Spec PyProof.Rows L2
namespace R
variable {st : Sto}
/-- a draw below m -/
theorem draw_ok {n b : Nat} {m : Int} (hS : Src n b st) (hb : b ≤ 1000000) (hm : 0 < m) (hm2 : m < 1000000) : Wp (L_draw [.cel n, .int m] st) (fun d s => (∃ v : Nat, d = .int v ∧ (v : Int) < m) ∧ Keep n st s ∧ Src n (b + 1) s) E_ := by
  have hl := hS.lt
  obtain ⟨g, s, c, h, s1, s2, c1, c2⟩ := hS
  have i2 : ixO (.cel n) (.int 2) st = .ok (.int c) st := cx (i := 2) h rfl
  have hp : putAt (.cel n) (.int 2) (.int (c + 1)) st = some (st.set n (.lst [.int g, .int s, .int (c + 1)])) := put (i := 2) h (by simp)
  have h' : (st.set n (.lst [.int g, .int s, .int (c + 1)]))[n]? = some (.lst [.int g, .int s, .int (c + 1)]) := List.getElem?_set_self hl
  generalize hst : st.set n (.lst [.int g, .int s, .int (c + 1)]) = st1 at hp h'
  have k1 : Keep n st st1 := by rw [← hst]; exact Keep.set
  have j0 : ixO (.cel n) (.int 0) st1 = .ok (.int g) st1 := cx (i := 0) h' rfl
  have j1 : ixO (.cel n) (.int 1) st1 = .ok (.int s) st1 := cx (i := 1) h' rfl
  have j2 : ixO (.cel n) (.int 2) st1 = .ok (.int (c + 1)) st1 := cx (i := 2) h' rfl
  by_cases hg : 1 < g
  · obtain ⟨w, hw⟩ : ∃ w, oDiv (.int g) (.int m) st1 = .ok (.int w) st1 := ⟨_, oDiv_ii (cDiv_small hm (by omega))⟩
    obtain ⟨v, q3, v0, v1⟩ := mod_ex (st := st1) g hm
    have hp2 : putAt (.cel n) (.int 0) (.int w) st1 = some (st1.set n (.lst [.int w, .int s, .int (c + 1)])) := put (i := 0) h' (by simp)
    simp only [L_draw, m_L_draw, Wp_run, WS_seq, WS_asg, WS_if, WS_ret, Wp_eOp, Wp_eV, Wp_eC, Wp_tOf, startE2]
    simp [i2, gS, eV, eC, hp, j0, hg, q3, hw, hp2]
    exact ⟨⟨v.toNat, by omega, by omega⟩, k1.trans Keep.set, w, s, c + 1, List.getElem?_set_self (by have := k1.1; omega), s1, s2, by omega, by omega⟩
  · have m1 : oMul (.int 6997) (.int (c + 1)) st1 = .ok (.int (6997 * (c + 1))) st1 := oMul_ii (cMul_l (by omega) (by omega))
    obtain ⟨w, p1⟩ := pow_ex (st := st1) (a := s + 6997 * (c + 1)) 5 (by omega) (by omega) (by omega) (by omega)
    obtain ⟨x, q1, x0, x1⟩ := mod_ex (st := st1) w (m := 2147483629) (by omega)
    obtain ⟨x2, m2, e2⟩ := mul_ex (st := st1) (a := x) (b := 48271) (cMul_r (by omega) (by omega))
    obtain ⟨x3, m3, e3⟩ := mul_ex (st := st1) (a := 16811) (b := c + 1) (cMul_l (by omega) (by omega))
    obtain ⟨y, m4, e4⟩ := mul_ex (st := st1) (a := x3) (b := c + 1) (cMul_r (by omega) (by omega))
    have cc : 0 ≤ y ∧ y < 2 ^ 62 := by
      have a1 : 0 ≤ x3 := by omega
      rw [e4]
      refine ⟨Int.mul_nonneg a1 (by omega), ?_⟩
      have : x3 * (c + 1) ≤ (16811 * 1000002) * 1000002 := Int.mul_le_mul (by omega) (by omega) (by omega) (by omega)
      omega
    obtain ⟨w2, p2⟩ := pow_ex (st := st1) (a := x2 + y + 13) 3 (by omega) (by omega) (by omega) (by omega)
    obtain ⟨z, q2, _, _⟩ := mod_ex (st := st1) w2 (m := 1000000007) (by omega)
    obtain ⟨v, q3, v0, v1⟩ := mod_ex (st := st1) z hm
    simp only [L_draw, m_L_draw, Wp_run, WS_seq, WS_asg, WS_if, WS_ret, Wp_eOp, Wp_eV, Wp_eC, Wp_tOf, startE2]
    simp [i2, gS, eV, eC, hp, j0, hg, j1, j2, m1, p1, q1, m2, m3, m4, p2, q2, q3]
    exact ⟨⟨v.toNat, by omega, by omega⟩, k1, g, s, c + 1, h', s1, s2, by omega, by omega⟩
end R
end DL

set_option Elab.async false
set_option linter.all false
set_option maxRecDepth 100000
set_option maxHeartbeats 1000000
namespace DL
open PySem PySem.Spec PyProof.Rows L2
namespace R
variable {st : Sto}
/-- what a call that draws k times leaves: P of its value -/
def Gn (n k b : Nat) (st : Sto) (x : Out D) (P : D → Prop) : Prop := Wp x (fun d s => P d ∧ Keep n st s ∧ Src n (b + k) s) E_
theorem draw_gn {n b : Nat} {m : Int} (hS : Src n b st) (hb : b ≤ 1000000) (hm : 0 < m) (hm2 : m < 1000000) : Gn n 1 b st (L_draw [.cel n, .int m] st) (fun d => ∃ v : Nat, d = .int v ∧ (v : Int) < m) := draw_ok hS hb hm hm2
theorem Gn.imp {n k b : Nat} {x : Out D} {P Q : D → Prop} (h : Gn n k b st x P) (hq : ∀ d, P d → Q d) : Gn n k b st x Q := Wp.imp h (fun d s ⟨h1, h2⟩ => ⟨hq d h1, h2⟩) fun _ _ _ z => z
theorem Gn.use {n k b : Nat} {x : Out D} {P : D → Prop} {Q : D → Sto → Prop} {E : EK} (h : Gn n k b st x P) (hq : ∀ d s, P d → Keep n st s → Src n (b + k) s → Q d s) : Wp x Q E := Wp.imp h (fun d s ⟨h1, h2, h3⟩ => hq d s h1 h2 h3) fun _ _ _ z => z.elim
theorem pick_mk {n b : Nat} {t : Bool} {xs : List D} (hS : Src n b st) (hb : b ≤ 1000000) (h0 : xs ≠ []) (h1 : xs.length < 1000000) : Gn n 1 b st (L_pick [.cel n, mk t xs] st) (fun d => d ∈ xs) := by
  have hl : 0 < xs.length := List.length_pos_iff.mpr h0
  unfold Gn
  simp only [L_pick, m_L_pick, Wp_run, WS_ret, Wp_eOp, Wp_eV, Wp_eCall, Wp_aCons, Wp_aNil, Wp_eCB, startE2]
  simp
  refine (draw_gn hS hb (m := (xs.length : Int)) (by omega) (by omega)).use fun d s hd hk hs => ?_
  obtain ⟨v, rfl, hv⟩ := hd
  have hv' : v < xs.length := by omega
  rw [mk_ix (List.getElem?_eq_getElem hv')]
  exact ⟨List.getElem_mem hv', hk, hs⟩
theorem pick_str {n b : Nat} {z : Str} (hS : Src n b st) (hb : b ≤ 1000000) (h0 : 0 < z.length) (h1 : z.length ≤ 1000) : Gn n 1 b st (L_pick [.cel n, .str z] st) (fun d => ∃ c ∈ z.cps.toList, d = .str ⟨#[c]⟩) := by
  unfold Gn
  have hl : lenO [.str z] st = .ok (.int z.length) st := lenO_str (by omega)
  simp only [L_pick, m_L_pick, Wp_run, WS_ret, Wp_eOp, Wp_eV, Wp_eCall, Wp_aCons, Wp_aNil, Wp_eCB, startE2]
  simp [hl]
  refine (draw_gn hS hb (m := (z.length : Int)) (by omega) (by omega)).use fun d s hd hk hs => ?_
  obtain ⟨v, rfl, hv⟩ := hd
  have hz : z.cps.toList.length = z.length := by simp [Str.length]
  have hv' : v < z.cps.toList.length := by omega
  have e : ixO (.str z) (.int v) s = .ok (.str ⟨#[z.cps.toList[v]]⟩) s := by
    unfold ixO
    simp only [if_pos (show z.length ≤ 100000 by omega), atI_nat (List.getElem?_eq_getElem hv')]
  rw [e]
  exact ⟨⟨_, by simpa using List.getElem_mem hv', rfl⟩, hk, hs⟩
/-! ### cells of our own -/
theorem Keep.cell {n i : Nat} {st s : Sto} {c : Cell} (h : Keep n st s) (hi : st[i]? = some c) (hn : i ≠ n) : s[i]? = some c := by
  rw [h.2 i (List.getElem?_eq_some_iff.mp hi).1 hn]
  exact hi
theorem Src.setNe {n b i : Nat} {c : Cell} (h : Src n b st) (hn : i ≠ n) : Src n b (st.set i c) := by
  obtain ⟨g, s, c', h, r⟩ := h
  exact ⟨g, s, c', by rw [List.getElem?_set_ne hn]; exact h, r⟩
theorem app_ok {i : Nat} {ds : List D} {d : D} (h : st[i]? = some (.lst ds)) (hl : ds.length < 100000) : appO (.cel i) [d] st = .ok .non (st.set i (.lst (ds ++ [d]))) := by
  simp [appO, celAt, h, hl]
theorem isCel_ok {i : Nat} {c : Cell} (h : st[i]? = some c) : isCel (.cel i) st = true := by simp [isCel, h]
/-- keeping what stood before cells were made -/
theorem Keep.setHi {n i : Nat} {st0 s : Sto} {c : Cell} (h : Keep n st0 s) (hi : st0.length ≤ i) : Keep n st0 (s.set i c) := ⟨by simpa using h.1, fun j hj hn => by rw [List.getElem?_set_ne (by omega)]; exact h.2 j hj hn⟩
theorem pop_ok {i v : Nat} {ds : List D} {d : D} (h : st[i]? = some (.lst ds)) (hv : ds[v]? = some d) (hl : ds.length < 1000000) : popO (.cel i) [.int v] st = .ok d (st.set i (.lst (ds.eraseIdx v))) := by
  have hv' : v < ds.length := (List.getElem?_eq_some_iff.mp hv).1
  have e : seqIndex? (v : Int) ds.length = some v := by
    have : ixN ds.length (v : Int) = some v := by
      unfold ixN
      rw [if_pos (by omega), if_pos (by omega)]
      simp
    exact (ixN_seq this).1
  have h2 : -(2 ^ 63) ≤ (v : Int) ∧ (v : Int) < 2 ^ 63 := by omega
  simp only [popO, celAt, h, if_pos h2, e, hv]
theorem len_cel {i : Nat} {ds : List D} (h : st[i]? = some (.lst ds)) : lenO [.cel i] st = .ok (.int ds.length) st := by simp [lenO, seqOf, h, Cell.get]
theorem fz_cel {i : Nat} {ds : List D} (h : st[i]? = some (.lst ds)) : fzD (.cel i) st = .ok (.lst ds) (st.set i (.fz ds)) := by simp [fzD, h]
theorem range_ok {j : Nat} (h : j ≤ 1000) : rangeD1 [.int j] st = .ok ((List.range j).map fun (k : Nat) => .int (0 + (k : Int))) st := by
  unfold rangeD1
  simp only [if_pos (show -(2 ^ 62) ≤ (j : Int) ∧ (j : Int) < 2 ^ 62 by omega), Int.toNat_natCast]
def OI (n b : Nat) (st : Sto) (xs ds : List D) (env : Env') (s : Sto) : Prop := ∃ (k : Nat) (left found : List D) (x : Option D), ds.length + k = xs.length ∧ left.length = ds.length ∧ found.length = k ∧ (∀ y ∈ left, y ∈ xs) ∧ (∀ y ∈ found, y ∈ xs) ∧ env = [some (.cel n), some (.lst xs), some (.cel st.length), some (.cel (st.length + 1)), x] ∧ s[st.length]? = some (.lst left) ∧ s[st.length + 1]? = some (.lst found) ∧ Keep n st s ∧ Src n (b + k) s
/-- the order -/
theorem order_gn {n b : Nat} {xs : List D} (hS : Src n b st) (hx : xs.length ≤ 10) (hb : b + xs.length ≤ 1000000) : Gn n xs.length b st (L_order [.cel n, .lst xs] st) (fun d => ∃ ys, d = .lst ys ∧ ys.length = xs.length ∧ ∀ y ∈ ys, y ∈ xs) := by
  have hn := hS.lt
  unfold Gn
  have e1 : listC [.lst xs] st = .ok (.cel st.length) (st ++ [.lst xs]) := by simp [listC, seqOf]
  simp only [L_order, m_L_order, Wp_run, WS_seq, WS_par, Wp_eCB, Wp_aCons, Wp_aNil, Wp_eV, Wp_eCel, WS_for, Wp_iR1, startE2]
  have g0 : (st ++ [Cell.lst xs] ++ [Cell.lst []])[st.length]? = some (.lst xs) := by simp
  have g1 : (st ++ [Cell.lst xs] ++ [Cell.lst []])[st.length + 1]? = some (.lst []) := by
    rw [List.getElem?_append_right (by simp)]; simp
  simp [e1]
  have g0' : (st ++ [Cell.lst xs, Cell.lst []])[st.length]? = some (.lst xs) := by simp
  rw [len_cel g0', Wp_ok, range_ok (by omega), Wp_ok]
  refine WS_forM (OI n b st xs)
    (fun d ds env s hI => ?_) (fun env s hI => ?_) _ _ _ ?_
  · obtain ⟨k, left, found, x, h1, h2, h3, h4, h5, rfl, h6, h7, h8, h9⟩ := hI
    have h1' : ds.length + 1 + k = xs.length := h1
    have h2' : left.length = ds.length + 1 := h2
    simp only [gN_eq, List.set_cons_succ, List.set_cons_zero, WG_some, WS_exp, Wp_eBM, Wp_eV, Wp_aCons, Wp_aNil, Wp_eCall, Wp_eCB]
    simp [isCel_ok h6, isCel_ok h7, len_cel h6]
    refine (draw_gn h9 (by omega) (m := (left.length : Int)) (by omega) (by omega)).use fun d s2 hd hk hs => ?_
    obtain ⟨v, rfl, hv⟩ := hd
    have hv' : v < left.length := by omega
    have c6 := hk.cell h6 (by omega)
    have c7 := hk.cell h7 (by omega)
    rw [pop_ok c6 (List.getElem?_eq_getElem hv') (by omega), Wp_ok]
    have c7' : (s2.set st.length (.lst (left.eraseIdx v)))[st.length + 1]? = some (.lst found) := by rw [List.getElem?_set_ne (by omega)]; exact c7
    rw [app_ok c7' (by omega), Wp_ok]
    have hlen2 : st.length + 1 < s2.length := (List.getElem?_eq_some_iff.mp c7).1
    refine ⟨k + 1, left.eraseIdx v, found ++ [left[v]], _, by omega, by rw [List.length_eraseIdx_of_lt hv']; omega, by simp [h3], fun y hy => h4 y (List.mem_of_mem_eraseIdx hy), ?_, rfl, ?_, ?_, ?_, ?_⟩
    · intro y hy
      rcases List.mem_append.mp hy with hy | hy
      · exact h5 y hy
      · rw [List.mem_singleton.mp hy]; exact h4 _ (List.getElem_mem hv')
    · rw [List.getElem?_set_ne (by omega), List.getElem?_set_self (by omega)]
    · rw [List.getElem?_set_self (by simp; omega)]
    · exact ((h8.trans hk).setHi (Nat.le_refl _)).setHi (by omega)
    · exact ((hs.mono (by omega)).setNe (by omega)).setNe (by omega)
  · obtain ⟨k, left, found, x, h1, h2, h3, h4, h5, rfl, h6, h7, h8, h9⟩ := hI
    have h1' : 0 + k = xs.length := h1
    simp [fz_cel h7]
    exact ⟨⟨by omega, h5⟩, h8.setHi (by omega), (h9.mono (by omega)).setNe (by omega)⟩
  · exact ⟨0, xs, [], none, by simp, by simp, rfl, fun y hy => hy, fun y hy => by simp at hy, rfl, g0', by simpa using g1, Keep.app _ _ _, hS.app⟩
end R
end DL

set_option Elab.async false
set_option linter.all false
set_option maxRecDepth 100000
set_option maxHeartbeats 1000000
namespace DL
open PySem PySem.Spec PyProof.Rows L2
namespace R
variable {st : Sto}
/-! ### names that are drawn -/
def lets (s : Str) : Bool := s.cps.toList.all fun c => decide (c ∈ letters.cps.toList)
theorem app_len (a b : Str) : (a ++ b).length = a.length + b.length := by
  show (a.cps ++ b.cps).size = a.cps.size + b.cps.size
  exact Array.size_append
theorem app_lets (a b : Str) : lets (a ++ b) = (lets a && lets b) := by
  show ((a.cps ++ b.cps).toList.all _) = _
  rw [Array.toList_append, List.all_append]
  rfl
theorem nameS_of {s : Str} (h1 : 1 ≤ s.length) (h2 : s.length ≤ 8) (h3 : lets s = true) : nameS s = true := by
  unfold nameS
  unfold lets at h3
  simp only [h3, decide_eq_true h1, decide_eq_true h2, Bool.and_self]
theorem fvs_strs : ∀ l : List Str, fvs (l.map D.str) = some (l.map V.str)
  | [] => rfl
  | a :: l => by simp [fvs, fv, fvs_strs l]
theorem inV_strs (x : Str) : ∀ l : List Str, inV (.str x) (l.map V.str) = decide (x ∈ l)
  | [] => rfl
  | a :: l => by
    have ih := inV_strs x l
    unfold inV at ih ⊢
    rw [List.map_cons, List.any_cons, ih]
    show ((a == x) || decide (x ∈ l)) = _
    rw [beq_dec]
    by_cases h : a = x
    · simp [h]
    · have h' : ¬ x = a := fun z => h z.symm
      simp [h, h']
theorem nin_cel {i : Nat} {l : List Str} {x : Str} (h : st[i]? = some (.lst (l.map D.str))) : inO true (.str x) (.cel i) st = .ok (.bl (!decide (x ∈ l))) st := by
  simp [inO, seqOf, h, Cell.get, fv, fvs_strs, inV_strs]
theorem lc_filter {env0 : Env'} {i c : Nat} {l : List Str} (hc : ∀ d : D, (env0.set i (some d))[c]? = some (some (.cel c))) : True := trivial
/-- [x for x in xs if x not in the cell] -/
theorem lc_notin {env0 : Env'} {i j c : Nat} {l : List Str} (hi : i < env0.length) (hij : j ≠ i) (hj : env0[j]? = some (some (.cel c))) (hc : st[c]? = some (.lst (l.map D.str))) : ∀ (xs acc : List Str), acc.length + xs.length ≤ 1000 → lcM (gN i) (tOf (eOp (inO true) (eV i) (eV j))) (eV i) env0 (xs.map D.str) (acc.map D.str) st = .ok (.lst ((acc ++ xs.filter fun x => !decide (x ∈ l)).map D.str)) st
  | [], acc, _ => by simp [lcM]
  | x :: xs, acc, h => by
    have h' : acc.length + (xs.length + 1) ≤ 1000 := h
    have e1 : eV i (env0.set i (some (.str x))) st = .ok (.str x) st := by simp [eV, List.getElem?_set_self hi]
    have e2 : eV j (env0.set i (some (.str x))) st = .ok (.cel c) st := by simp [eV, List.getElem?_set_ne (Ne.symm hij), hj]
    have et : tOf (eOp (inO true) (eV i) (eV j)) (env0.set i (some (.str x))) st = .ok (!decide (x ∈ l)) st := by
      simp [tOf, eOp, e1, e2, nin_cel hc, toB]
    rw [List.map_cons]
    unfold lcM
    simp only [gN_eq, et, e1]
    by_cases hx : x ∈ l
    · rw [if_neg (by simp [hx]), lc_notin hi hij hj hc xs acc (by omega), List.filter_cons_of_neg (by simp [hx])]
    · rw [if_pos (by simp [hx]), if_pos (by simp; omega)]
      have := lc_notin hi hij hj hc xs (acc ++ [x]) (by simp; omega)
      rw [List.map_append] at this
      rw [List.filter_cons_of_pos (by simp [hx])]
      simpa using this
def sqs (c : Nat) : Str := (⟨#[c]⟩ : Str) ++ "q" ++ ⟨#[c]⟩
def three : List Str := ["aqa", "bqb", "cqc"]
theorem three_in : ∀ x ∈ three, x ∈ letters.cps.toList.map sqs := by decide +kernel
theorem sqs_name : ∀ x ∈ letters.cps.toList.map sqs, nameS x = true := by decide +kernel
theorem one_free {fs : List Str} (h : fs.length ≤ 2) : ∃ x ∈ three, x ∉ fs := by
  have h12 : ("aqa" : Str) ≠ "bqb" := by decide
  have h13 : ("aqa" : Str) ≠ "cqc" := by decide
  have h23 : ("bqb" : Str) ≠ "cqc" := by decide
  by_cases a : ("aqa" : Str) ∈ fs
  · by_cases b : ("bqb" : Str) ∈ fs
    · by_cases c : ("cqc" : Str) ∈ fs
      · exfalso
        match fs, h with
        | [], _ => simp at a
        | [x], _ =>
          simp only [List.mem_singleton] at a b
          exact h12 (a.trans b.symm)
        | [x, y], _ =>
          simp only [List.mem_cons, List.not_mem_nil, or_false] at a b c
          rcases a with a | a <;> rcases b with b | b <;> rcases c with c | c
          · exact h12 (a.trans b.symm)
          · exact h12 (a.trans b.symm)
          · exact h13 (a.trans c.symm)
          · exact h23 (b.trans c.symm)
          · exact h23 (b.trans c.symm)
          · exact h13 (a.trans c.symm)
          · exact h12 (a.trans b.symm)
          · exact h12 (a.trans b.symm)
      · exact ⟨_, by simp [three], c⟩
    · exact ⟨_, by simp [three], b⟩
  · exact ⟨_, by simp [three], a⟩
def WIn (n b c : Nat) (m : Int) (fs : List Str) (st : Sto) (ds : List D) (env : Env') (s : Sto) : Prop := ∃ (w : Str) (k : Nat) (x4 x6 x7 x8 x9 : Option D), env = [some (.cel n), some (.int m), some (.str letters), some (.cel c), x4, some (.str w), x6, x7, x8, x9] ∧ lets w = true ∧ 1 ≤ w.length ∧ w.length + ds.length ≤ 8 ∧ s[c]? = some (.lst (fs.map D.str)) ∧ Keep n st s ∧ k + ds.length ≤ 7 ∧ Src n (b + k) s
def WOut (n b c m : Nat) (st : Sto) (ds : List D) (env : Env') (s : Sto) : Prop := ∃ (fs : List Str) (x4 x5 x6 x7 x8 x9 : Option D), env = [some (.cel n), some (.int (m : Nat)), some (.str letters), some (.cel c), x4, x5, x6, x7, x8, x9] ∧ ds.length + fs.length = m ∧ (∀ x ∈ fs, nameS x = true) ∧ s[c]? = some (.lst (fs.map D.str)) ∧ Keep n st s ∧ Src n (b + 9 * fs.length) s
theorem pick_let {n b : Nat} (hS : Src n b st) (hb : b ≤ 1000000) : Gn n 1 b st (L_pick [.cel n, .str letters] st) (fun d => ∃ w, d = .str w ∧ lets w = true ∧ w.length = 1) :=
  (pick_str hS hb (by decide +kernel) (by decide +kernel)).imp fun d ⟨c, hc, e⟩ => ⟨_, e, by simp only [lets, List.all_cons, List.all_nil, Bool.and_true]; exact decide_eq_true hc, rfl⟩
theorem five {v : Nat} (h : v < 5) : ∃ r : Nat, r ≤ 7 ∧ ixO (.lst [.int 0, .int 0, .int 1, .int 2, .int 7]) (.int v) st = .ok (.int r) st := by
  match v, h with
  | 0, _ => exact ⟨0, by omega, ixO_lst (i := 0) rfl⟩
  | 1, _ => exact ⟨0, by omega, ixO_lst (i := 1) rfl⟩
  | 2, _ => exact ⟨1, by omega, ixO_lst (i := 2) rfl⟩
  | 3, _ => exact ⟨2, by omega, ixO_lst (i := 3) rfl⟩
  | 4, _ => exact ⟨7, by omega, ixO_lst (i := 4) rfl⟩
theorem add_str {a b : Str} (h : a.length + b.length ≤ 100000) : oAdd (.str a) (.str b) st = .ok (.str (a ++ b)) st := by simp [oAdd, h]
def sqD (d : D) : D := match d with
  | .str s => .str (s ++ "q" ++ s)
  | d => d
theorem spare_lc {env0 : Env'} (hl : env0.length = 10) : lcM (gN 8) tT (eOp oAdd (eOp oAdd (eV 8) (eC (.str "q"))) (eV 8)) env0 (letters.cps.toList.map fun c => D.str ⟨#[c]⟩) [] st = .ok (.lst ((letters.cps.toList.map sqs).map D.str)) st := by
  have key := lc_mapM (st := st) (me := eOp oAdd (eOp oAdd (eV 8) (eC (.str "q"))) (eV 8)) (env0 := env0) (i := 8) sqD (letters.cps.toList.map fun c => D.str ⟨#[c]⟩) [] (fun d hd => ?_) (by decide +kernel)
  · rw [key, List.map_map, List.map_map]
    rfl
  · obtain ⟨c, _, rfl⟩ := List.mem_map.mp hd
    have e1 : eV 8 (env0.set 8 (some (.str ⟨#[c]⟩))) st = .ok (.str ⟨#[c]⟩) st := by simp [eV, List.getElem?_set_self (show 8 < env0.length by omega)]
    have l1 : (⟨#[c]⟩ : Str).length = 1 := rfl
    have l2 : ("q" : Str).length = 1 := by decide +kernel
    simp only [eOp, e1, eC, bnd_ok, add_str (show (⟨#[c]⟩ : Str).length + ("q" : Str).length ≤ 100000 by omega), add_str (show ((⟨#[c]⟩ : Str) ++ "q").length + (⟨#[c]⟩ : Str).length ≤ 100000 by rw [app_len]; omega), sqD]
end R
end DL

set_option Elab.async false
set_option linter.all false
set_option maxRecDepth 100000
set_option maxHeartbeats 1000000
namespace DL
open PySem PySem.Spec PyProof.Rows L2
namespace R
variable {st : Sto}
def mWin : SM := sAsg (eOp oAdd (eV 5) (eCall 2 L_pick (aCons (eV 0) (aCons (eV 2) aNil)))) (gN 5)
def mWbd : SM := (sSeq (sAsg (eCall 2 L_pick (aCons (eV 0) (aCons (eV 2) aNil))) (gN 5))
    (sSeq (sFor (iR1 (aCons (eOp ixO (eLst (aCons (eC (.int 0)) (aCons (eC (.int 0)) (aCons (eC (.int 1)) (aCons (eC (.int 2)) (aCons (eC (.int 7)) aNil)))))) (eCall 2 L_draw (aCons (eV 0) (aCons (eC (.int 5)) aNil)))) aNil)) (gN 6) mWin)
    (sSeq (sAsg (eOp oAdd (eLst (aCons (eV 5) aNil)) (eLc (iSq (eV 2)) (gN 8) tT (eOp oAdd (eOp oAdd (eV 8) (eC (.str "q"))) (eV 8)) [8])) (gN 7))
    (sExp (eBM isCel appO (eV 3) (aCons (eOp ixO (eLc (iSq (eV 7)) (gN 9) (tOf (eOp (inO true) (eV 9) (eV 3))) (eV 9) [9]) (eC (.int 0))) aNil))))))
theorem m_words : m_L_words = (sSeq (sAsg (eTup (aCons (eC (.str "abcdefghijklmnopqrstuvwxyz")) (aCons (eCel aNil) aNil))) (gT 2 (gsCons (gN 2) (gsCons (gN 3) gsNil))))
    (sSeq (sFor (iR1 (aCons (eV 1) aNil)) (gN 4) mWbd) (sRet (eFz (eV 3))))) := rfl
theorem win_ok {N : Env' → Sto → Prop} {R : D → Sto → Prop} {E : EK} {n b c : Nat} {m : Int} {fs : List Str} {st0 : Sto} (hc : c ≠ n) (hb : b + 7 ≤ 100000) {ds : List D} {env : Env'} {s : Sto} (h : WIn n b c m fs st0 ds env s) (hN : ∀ env s, WIn n b c m fs st0 [] env s → N env s) : WS (forM (gN 6) mWin ds env s) N R E := by
  refine WS_forM (WIn n b c m fs st0) (fun d ds env s hI => ?_) hN _ _ _ h
  obtain ⟨w, k, x4, x6, x7, x8, x9, rfl, h1, h2, h3, h4, h5, h6, h7⟩ := hI
  have h3' : w.length + (ds.length + 1) ≤ 8 := h3
  have h6' : k + (ds.length + 1) ≤ 7 := h6
  simp only [gN_eq, List.set_cons_succ, List.set_cons_zero, WG_some, mWin, WS_asg, Wp_eOp, Wp_eV, Wp_eCall, Wp_aCons, Wp_aNil]
  simp
  refine (pick_let h7 (by omega)).use fun d s2 hd hk hs => ?_
  obtain ⟨w2, rfl, l2, e2⟩ := hd
  rw [add_str (by omega), Wp_ok]
  exact ⟨w ++ w2, k + 1, _, _, _, _, _, rfl, by rw [app_lets, h1, l2]; rfl, by rw [app_len]; omega, by rw [app_len]; omega, hk.cell h4 hc, h5.trans hk, by omega, hs⟩
theorem wbd_ok {n b c m : Nat} {st0 : Sto} (hc : st0.length = c) (hn : n < c) (hb : b + 9 * m ≤ 100000) (hm : m ≤ 3) {R : D → Sto → Prop} {E : EK} {d : D} {ds : List D} {env : Env'} {s : Sto} (h : WOut n b c m st0 (d :: ds) env s) : WG (gN 4 d env s) fun e s => WS (mWbd e s) (fun e s => WOut n b c m st0 ds e s) R E := by
  obtain ⟨fs, x4, x5, x6, x7, x8, x9, rfl, h1, h2, h3, h4, h5⟩ := h
  have h1' : ds.length + 1 + fs.length = m := h1
  simp only [gN_eq, List.set_cons_succ, List.set_cons_zero, WG_some, mWbd, WS_seq, WS_asg, Wp_eV, Wp_eCall, Wp_aCons, Wp_aNil]
  simp
  refine (pick_let h5 (by omega)).use fun d1 s1 hd hk hs => ?_
  obtain ⟨w, rfl, l1, e1⟩ := hd
  simp only [List.set_cons_succ, List.set_cons_zero, WS_for, Wp_iR1, Wp_aCons, Wp_aNil, Wp_eOp, Wp_eLst, Wp_eC, Wp_eCall, Wp_eV]
  simp
  refine (draw_gn hs (by omega) (m := 5) (by omega) (by omega)).use fun d2 s2 hd2 hk2 hs2 => ?_
  obtain ⟨v, rfl, hv⟩ := hd2
  obtain ⟨r, hr, er⟩ := five (st := s2) (v := v) (by omega)
  rw [er, Wp_ok, range_ok (by omega), Wp_ok]
  have c2 := hk2.cell (hk.cell h3 (by omega)) (by omega)
  refine win_ok (b := b + 9 * fs.length + 1 + 1) (c := c) (m := (m : Int)) (fs := fs) (st0 := st0) (by omega) (by omega) ⟨w, 0, _, _, _, _, _, rfl, l1, by omega, by simp; omega, c2, (h4.trans hk).trans hk2, by simp; omega, hs2⟩ fun env s3 hw => ?_
  obtain ⟨w3, k, y4, y6, y7, y8, y9, rfl, g1, g2, g3, g4, g5, g6, g7⟩ := hw
  have g3' : w3.length + 0 ≤ 8 := g3
  have g6' : k + 0 ≤ 7 := g6
  have hi : itemsOf (.str letters) = some (letters.cps.toList.map fun c => D.str ⟨#[c]⟩) := rfl
  have hsp := spare_lc (st := s3) (env0 := [some (.cel n), some (.int (m : Nat)), some (.str letters), some (.cel c), y4, some (.str w3), y6, y7, none, y9]) rfl
  have hadd : oAdd (.lst [.str w3]) (.lst ((letters.cps.toList.map sqs).map D.str)) s3 = .ok (.lst ((w3 :: letters.cps.toList.map sqs).map D.str)) s3 := by
    unfold oAdd
    simp only [lstOf]
    rw [if_pos (by simp; have : letters.cps.size = 26 := by decide +kernel
                   omega)]
    rfl
  simp only [Wp_eLc, Wp_iSq, Wp_eV, List.getElem?_cons_succ, List.getElem?_cons_zero, Option.some.injEq, exists_eq_left']
  refine ⟨_, hi, ?_⟩
  rw [show wipeE [some (D.cel n), some (D.int (m : Nat)), some (.str letters), some (.cel c), y4, some (.str w3), y6, y7, y8, y9] [8] = [some (.cel n), some (.int (m : Nat)), some (.str letters), some (.cel c), y4, some (.str w3), y6, y7, none, y9] from rfl, hsp, Wp_ok, hadd, Wp_ok]
  simp only [gN_eq, List.set_cons_succ, List.set_cons_zero, WG_some, WS_exp, Wp_eBM, Wp_eV, Wp_aCons, Wp_aNil, Wp_eOp, Wp_eLc, Wp_iSq, Wp_eC, List.getElem?_cons_succ, List.getElem?_cons_zero, Option.some.injEq, exists_eq_left']
  refine ⟨isCel_ok g4, _, rfl, ?_⟩
  generalize hsl : w3 :: letters.cps.toList.map sqs = sl
  have hll : sl.length ≤ 1000 := by rw [← hsl]; simp; decide +kernel
  have hf := lc_notin (st := s3) (env0 := [some (.cel n), some (.int (m : Nat)), some (.str letters), some (.cel c), y4, some (.str w3), y6, some (.lst (sl.map D.str)), y8, none]) (i := 9) (j := 3) (c := c) (l := fs) (by simp) (by omega) rfl g4 sl [] (by simpa using hll)
  have hf' : lcM (gN 9) (tOf (eOp (inO true) (eV 9) (eV 3))) (eV 9) (wipeE [some (.cel n), some (.int (m : Nat)), some (.str letters), some (.cel c), y4, some (.str w3), y6, some (.lst (sl.map D.str)), y8, y9] [9]) (sl.map D.str) [] s3 = .ok (.lst ((sl.filter fun x => !decide (x ∈ fs)).map D.str)) s3 := hf
  rw [hf', Wp_ok]
  obtain ⟨x, hx, hxn⟩ := one_free (fs := fs) (by omega)
  have hxs : x ∈ sl := by rw [← hsl]; exact List.mem_cons_of_mem _ (three_in x hx)
  have hxf : x ∈ sl.filter fun x => !decide (x ∈ fs) := List.mem_filter.mpr ⟨hxs, by simp [hxn]⟩
  cases hq : sl.filter (fun x => !decide (x ∈ fs)) with
  | nil => rw [hq] at hxf; simp at hxf
  | cons y ys =>
    have hy : y ∈ sl := (List.mem_filter.mp (show y ∈ sl.filter fun x => !decide (x ∈ fs) by rw [hq]; exact List.mem_cons_self ..)).1
    have hyn : nameS y = true := by
      rw [← hsl] at hy
      rcases List.mem_cons.mp hy with rfl | hy
      · exact nameS_of g2 (by omega) g1
      · exact sqs_name y hy
    rw [List.map_cons, lx0, Wp_ok, app_ok g4 (by simp; omega), Wp_ok]
    refine ⟨fs ++ [y], _, _, _, _, _, _, rfl, by simp; omega, fun z hz => ?_, ?_, g5.setHi (by omega), ?_⟩
    · rcases List.mem_append.mp hz with hz | hz
      · exact h2 z hz
      · rw [List.mem_singleton.mp hz]; exact hyn
    · rw [List.getElem?_set_self (List.getElem?_eq_some_iff.mp g4).1]
      simp
    · refine (g7.mono ?_).setNe (by omega)
      simp; omega
theorem words_gn {n b m : Nat} (hS : Src n b st) (hm : m ≤ 3) (hb : b + 9 * m ≤ 100000) : ∃ d s, L_words [.cel n, .int m] st = .ok d s ∧ (∃ fs : List Str, d = .lst (fs.map D.str) ∧ fs.length = m ∧ ∀ x ∈ fs, nameS x = true) ∧ Keep n st s ∧ Src n (b + 9 * m) s := by
  have hn := hS.lt
  apply Wp.ok_of
  rw [L_words, m_words]
  simp only [Wp_run, WS_seq, WS_asg, Wp_eTup, Wp_aCons, Wp_aNil, Wp_eC, Wp_eCel, WS_for, Wp_iR1, Wp_eV, startE2]
  simp [gT, gsCons, gsNil]
  rw [range_ok (by omega), Wp_ok]
  refine WS_forM (WOut n b st.length m st) (fun d ds env s hI => wbd_ok rfl hn hb hm hI) (fun env s hI => ?_) _ _ _ ?_
  · obtain ⟨fs, x4, x5, x6, x7, x8, x9, rfl, h1, h2, h3, h4, h5⟩ := hI
    have h1' : 0 + fs.length = m := h1
    simp [fz_cel h3]
    exact ⟨⟨fs, rfl, by omega, h2⟩, h4.setHi (Nat.le_refl _), (h5.mono (by omega)).setNe (by omega)⟩
  · exact ⟨[], _, _, _, _, _, _, rfl, by simp, fun x hx => by simp at hx, by simp, Keep.app _ _ _, hS.app⟩
end R
end DL

set_option Elab.async false
set_option linter.all false
set_option maxRecDepth 100000
set_option maxHeartbeats 1000000
namespace DL
open PySem PySem.Spec PyProof.Rows L2
namespace R
variable {st : Sto}
theorem cut_to2 {a b : D} {r : List D} : cutD (a :: b :: r) none (some 2) = [a, b] := by
  unfold cutD HT.sIx
  simp
/-- the pair of a plain rule's names -/
def Pair2 (fs : List Str) (d : D) : Prop := ∃ a b : Str, a ∈ fs ∧ b ∈ fs ∧ d = .lst [.str a, .str b]
def mPend : SM := (sSeq (sAsg (eCall 2 L_pick (aCons (eV 0) (aCons (eIf (tOf (eOp oEq (eV 3) (eC (.str "since")))) (eLst (aCons (eC (.str "upto")) (aCons (eC (.str "below")) (aCons (eC (.str "from")) (aCons (eC (.str "above")) aNil))))) (eLst (aCons (eC (.str "upto")) (aCons (eC (.str "below")) aNil)))) aNil))) (gN 5))
    (sRet (eTup (aCons (eV 3) (aCons (eOp ixO (eV 4) (eC (.int 0))) (aCons (eOp ixO (eV 4) (eC (.int 1))) (aCons (eV 5) (aCons (eCall 2 L_draw (aCons (eV 0) (aCons (eOp oAdd (eV 2) (eC (.int 1))) aNil))) aNil))))))))
theorem m_plain : m_L_plain = (sSeq (sPar 3 4 (aCons (eCall 2 L_pick (aCons (eV 0) (aCons (eLst (aCons (eC (.str "since")) (aCons (eC (.str "since")) (aCons (eC (.str "soon")) aNil)))) aNil))) (aCons (eLst (aCons (eCall 2 L_pick (aCons (eV 0) (aCons (eV 1) aNil))) (aCons (eCall 2 L_pick (aCons (eV 0) (aCons (eV 1) aNil))) aNil))) aNil)))
    (sSeq (sIf (bAnd (tOf (eOp oEq (eOp ixO (eV 4) (eC (.int 0))) (eOp ixO (eV 4) (eC (.int 1))))) (tOf (eOp oGt (eCall 2 L_draw (aCons (eV 0) (aCons (eC (.int 4)) aNil))) (eC (.int 0))))) (sAsg (eSl (eOp oAdd (eCall 2 L_order (aCons (eV 0) (aCons (eV 1) aNil))) (eV 1)) pN (pI (eC (.int 2)))) (gN 4)) sNx) mPend)) := rfl
theorem pend_ok {n b : Nat} {fs : List Str} {st0 s : Sto} {k : Str} {q x5 : Option D} {P : D → Sto → Prop} {N : Env' → Sto → Prop} {E : EK} {dp : D} (hk : k = "since" ∨ k = "soon") (hp : Pair2 fs dp) (hf : ∀ x ∈ fs, nameS x = true) (hS : Src n b s) (hb : b + 2 ≤ 100000) (hkp : Keep n st0 s)
    (h : ∀ (p : PR) (s : Sto), p.Good → Keep n st0 s → Src n (b + 2) s → P p.d s) : WS (mPend [some (.cel n), q, some (.int 3), some (.str k), some dp, x5] s) N P E := by
  obtain ⟨a, c, ha, hc, rfl⟩ := hp
  have na := hf a ha
  have nc := hf c hc
  have hw : Wp (eCall 2 L_pick (aCons (eV 0) (aCons (eIf (tOf (eOp oEq (eV 3) (eC (.str "since")))) (eLst (aCons (eC (.str "upto")) (aCons (eC (.str "below")) (aCons (eC (.str "from")) (aCons (eC (.str "above")) aNil))))) (eLst (aCons (eC (.str "upto")) (aCons (eC (.str "below")) aNil)))) aNil)) [some (.cel n), q, some (.int 3), some (.str k), some (.lst [.str a, .str c]), x5] s) (fun d s2 => (∃ w, d = .str w ∧ isWord w ∧ (k = "soon" → w = "upto" ∨ w = "below")) ∧ Keep n s s2 ∧ Src n (b + 1) s2) E := by
    rcases hk with rfl | rfl
    · simp only [Wp_eCall, Wp_aCons, Wp_aNil, Wp_eV, Wp_eIf, Wp_tOf, Wp_eOp, Wp_eC, Wp_eLst, List.getElem?_cons_succ, List.getElem?_cons_zero, Option.some.injEq, exists_eq_left', oEq_ss so_since so_since, Wp_ok]
      simp
      refine (pick_mk (t := false) (xs := [.str "upto", .str "below", .str "from", .str "above"]) hS (by omega) (by simp) (by simp)).use fun d s2 hd hk hs => ⟨?_, hk, hs⟩
      simp only [List.mem_cons, List.not_mem_nil, or_false] at hd
      rcases hd with rfl | rfl | rfl | rfl
      · exact ⟨_, rfl, .inl rfl, fun z => .inl rfl⟩
      · exact ⟨_, rfl, .inr (.inl rfl), fun z => .inr rfl⟩
      · exact ⟨_, rfl, .inr (.inr (.inl rfl)), fun z => absurd z (by decide)⟩
      · exact ⟨_, rfl, .inr (.inr (.inr rfl)), fun z => absurd z (by decide)⟩
    · simp only [Wp_eCall, Wp_aCons, Wp_aNil, Wp_eV, Wp_eIf, Wp_tOf, Wp_eOp, Wp_eC, Wp_eLst, List.getElem?_cons_succ, List.getElem?_cons_zero, Option.some.injEq, exists_eq_left', oEq_ss so_soon so_since, Wp_ok]
      simp (decide := true)
      refine (pick_mk (t := false) (xs := [.str "upto", .str "below"]) hS (by omega) (by simp) (by simp)).use fun d s2 hd hk hs => ⟨?_, hk, hs⟩
      simp only [List.mem_cons, List.not_mem_nil, or_false] at hd
      rcases hd with rfl | rfl
      · exact ⟨_, rfl, .inl rfl, .inl rfl⟩
      · exact ⟨_, rfl, .inr (.inl rfl), .inr rfl⟩
  rw [mPend, WS_seq, WS_asg]
  refine hw.imp (fun d s2 hd => ?_) fun _ _ _ z => z
  obtain ⟨⟨w, rfl, w1, w2⟩, k2, hs2⟩ := hd
  simp only [gN_eq, WG_some, List.set_cons_succ, List.set_cons_zero, WS_ret, Wp_eTup, Wp_aCons, Wp_aNil, Wp_eV, Wp_eOp, Wp_eC, Wp_eCall, List.getElem?_cons_succ, List.getElem?_cons_zero, Option.some.injEq, exists_eq_left', lx0, lx1, Wp_ok, oAdd_ii]
  refine ⟨rfl, (draw_gn hs2 (by omega) (m := 4) (by omega) (by omega)).use fun d s3 hd hk3 hs3 => ?_⟩
  obtain ⟨v, rfl, hv⟩ := hd
  refine ⟨by simp, h ⟨k, a, c, w, v⟩ s3 ⟨⟨hk, nameS_ok na, nameS_ok nc, w1, by show (0 : Int) ≤ v; omega, by show (v : Int) < 1000; omega⟩, na, nc, w2⟩ ((hkp.trans k2).trans hk3) hs3⟩
theorem plain_gn {n b : Nat} {fs : List Str} (hS : Src n b st) (hb : b + 9 ≤ 100000) (h2 : 2 ≤ fs.length) (h3 : fs.length ≤ 3) (hf : ∀ x ∈ fs, nameS x = true) : Gn n 9 b st (L_plain [.cel n, .lst (fs.map D.str), .int 3] st) (fun d => ∃ p : PR, d = p.d ∧ p.Good) := by
  have hn := hS.lt
  have hne : fs.map D.str ≠ [] := by intro z; rw [List.map_eq_nil_iff] at z; rw [z] at h2; simp at h2
  have hlen : (fs.map D.str).length < 1000000 := by simp; omega
  unfold Gn
  rw [L_plain, m_plain]
  simp only [Wp_run, WS_seq, WS_par, Wp_eCall, Wp_aCons, Wp_aNil, Wp_eV, Wp_eLst, Wp_eC, startE3]
  simp
  refine (pick_mk (t := false) (xs := [.str "since", .str "since", .str "soon"]) hS (by omega) (by simp) (by simp)).use fun d s1 hd hk1 hs1 => ?_
  have hkd : ∃ k : Str, d = .str k ∧ (k = "since" ∨ k = "soon") := by
    simp only [List.mem_cons, List.not_mem_nil, or_false] at hd
    rcases hd with rfl | rfl | rfl
    · exact ⟨_, rfl, .inl rfl⟩
    · exact ⟨_, rfl, .inl rfl⟩
    · exact ⟨_, rfl, .inr rfl⟩
  obtain ⟨k, rfl, hk⟩ := hkd
  refine (pick_mk (t := false) (xs := fs.map D.str) hs1 (by omega) hne hlen).use fun d s2 hd hk2 hs2 => ?_
  obtain ⟨a, ha, rfl⟩ := List.mem_map.mp hd
  refine (pick_mk (t := false) (xs := fs.map D.str) hs2 (by omega) hne hlen).use fun d s3 hd hk3 hs3 => ?_
  obtain ⟨c, hc, rfl⟩ := List.mem_map.mp hd
  have sa := nameS_ok (hf a ha)
  have sc := nameS_ok (hf c hc)
  have kp3 : Keep n st s3 := (hk1.trans hk2).trans hk3
  simp only [List.set_cons_succ, List.set_cons_zero, WS_if, Wp_bAnd, Wp_tOf, Wp_eOp, Wp_eV, Wp_eC, Wp_eCall, Wp_aCons, Wp_aNil, List.getElem?_cons_succ, List.getElem?_cons_zero, Option.some.injEq, exists_eq_left', lx0, lx1, Wp_ok, oEq_ss sa sc, D.bl.injEq]
  have fin : ∀ (p : PR) (s : Sto), p.Good → Keep n st s → Src n (b + 9) s → (fun d s => (∃ p : PR, d = p.d ∧ p.Good) ∧ Keep n st s ∧ Src n (b + 9) s) p.d s := fun p s hp hkk hss => ⟨⟨p, rfl, hp⟩, hkk, hss⟩
  by_cases hac : a = c
  · simp [hac]
    refine (draw_gn hs3 (by omega) (m := 4) (by omega) (by omega)).use fun d s4 hd hk4 hs4 => ?_
    obtain ⟨v, rfl, hv⟩ := hd
    simp only [oGt_ii, Wp_ok, D.bl.injEq, exists_eq_left']
    by_cases hv0 : 0 < v
    · simp
      refine .inr ⟨hv0, ?_⟩
      refine (order_gn (xs := fs.map D.str) hs4 (by simp; omega) (by simp; omega)).use fun d s5 hd hk5 hs5 => ?_
      obtain ⟨ys, rfl, hy1, hy2⟩ := hd
      rw [List.length_map] at hy1
      have hadd : oAdd (.lst ys) (.lst (fs.map D.str)) s5 = .ok (.lst (ys ++ fs.map D.str)) s5 := by
        simp [oAdd, lstOf]
        omega
      rw [hadd, Wp_ok]
      match ys, hy1, hy2 with
      | y1 :: y2 :: yr, hy1, hy2 =>
        obtain ⟨a', ha', rfl⟩ := List.mem_map.mp (hy2 y1 (by simp))
        obtain ⟨c', hc', rfl⟩ := List.mem_map.mp (hy2 y2 (by simp))
        simp [slO, seqOf, cut_to2]
        rw [List.length_map] at hs5
        exact pend_ok hk ⟨a', c', ha', hc', rfl⟩ hf hs5 (by omega) ((kp3.trans hk4).trans hk5) fun p s hp hkk hss => fin p s hp hkk (hss.mono (by omega))
      | [], hy1, _ => simp at hy1; omega
      | [_], hy1, _ => simp at hy1; omega
    · simp
      refine .inl ⟨by omega, ?_⟩
      exact pend_ok hk ⟨c, c, hc, hc, rfl⟩ hf hs4 (by omega) (kp3.trans hk4) fun p s hp hkk hss => fin p s hp hkk (hss.mono (by omega))
  · simp [hac]
    exact pend_ok hk ⟨a, c, ha, hc, rfl⟩ hf hs3 (by omega) kp3 fun p s hp hkk hss => fin p s hp hkk (hss.mono (by omega))
end R
end DL

set_option Elab.async false
set_option linter.all false
set_option maxRecDepth 100000
set_option maxHeartbeats 1000000
namespace DL
open PySem PySem.Spec PyProof.Rows L2
namespace R
variable {st : Sto}
def cR : Nat → Nat
  | 0 => 10
  | d + 1 => 2 * cR d + 10
theorem cR_ge (d : Nat) : 10 ≤ cR d := by cases d <;> simp [cR]
@[simp] theorem startE5 (a b c d e : D) (n : Nat) : startE (n + 5) [a, b, c, d, e] = some a :: some b :: some c :: some d :: some e :: List.replicate n none := by simp [startE]
def RuleIs (d : Nat) (x : D) : Prop := ∃ a : Rl, x = a.d ∧ a.Good ∧ a.dep ≤ d + 1
def mRend (self : List D → Sto → Out D) : SM := (sSeq (sAsg (eOp oAdd (eC (.int 1)) (eCall 2 L_draw (aCons (eV 0) (aCons (eOp oSub (eV 3) (eC (.int 1))) aNil)))) (gN 6))
    (sSeq (sAsg (eCall 5 self (aCons (eV 0) (aCons (eV 1) (aCons (eV 2) (aCons (eV 6) (aCons (eOp oSub (eV 4) (eC (.int 1))) aNil)))))) (gN 7))
    (sRet (eTup (aCons (eCall 2 L_pick (aCons (eV 0) (aCons (eLst (aCons (eC (.str "both")) (aCons (eC (.str "either")) aNil))) aNil))) (aCons (eV 7) (aCons (eCall 5 self (aCons (eV 0) (aCons (eV 1) (aCons (eV 2) (aCons (eOp oSub (eV 3) (eV 6)) (aCons (eOp oSub (eV 4) (eC (.int 1))) aNil)))))) aNil)))))))
def mRmid (self : List D → Sto → Out D) : SM := (sSeq (sIf (bOr (bAnd (tOf (eOp oLt (eV 3) (eC (.int 2)))) (tOf (eOp oGt (eV 5) (eC (.int 3))))) (bOr (tOf (eOp oLt (eV 5) (eC (.int 3)))) (tOf (eOp oEq (eV 4) (eC (.int 0)))))) (sRet (eCall 3 L_plain (aCons (eV 0) (aCons (eV 1) (aCons (eV 2) aNil))))) sNx)
    (sSeq (sIf (tOf (eOp oEq (eV 5) (eC (.int 3)))) (sRet (eTup (aCons (eC (.str "not")) (aCons (eCall 5 self (aCons (eV 0) (aCons (eV 1) (aCons (eV 2) (aCons (eV 3) (aCons (eOp oSub (eV 4) (eC (.int 1))) aNil)))))) aNil)))) sNx) (mRend self)))
theorem m_rule (self : List D → Sto → Out D) : m_L_rule self = (sSeq (sAsg (eCall 2 L_draw (aCons (eV 0) (aCons (eC (.int 6)) aNil))) (gN 5)) (mRmid self)) := rfl
theorem four_tests {A B C E : EM Bool} {env : Env'} {a b c d : Bool} (hA : A env st = .ok a st) (hB : B env st = .ok b st) (hC : C env st = .ok c st) (hD : E env st = .ok d st) : (bOr (bAnd A B) (bOr C E)) env st = .ok ((a && b) || (c || d)) st := by
  unfold bOr bAnd
  cases a <;> cases b <;> cases c <;> cases d <;> simp [hA, hB, hC, hD]
theorem rule_gn {n : Nat} {fs : List Str} (h2 : 2 ≤ fs.length) (h3 : fs.length ≤ 3) (hf : ∀ x ∈ fs, nameS x = true) : ∀ (k dd mm b : Nat) (st : Sto), dd < k → 1 ≤ mm → mm ≤ 3 → Src n b st → b + cR dd ≤ 100000 → Gn n (cR dd) b st (L_rule k [.cel n, .lst (fs.map D.str), .int 3, .int mm, .int dd] st) (RuleIs dd)
  | 0, dd, mm, b, st, h, _, _, _, _ => by omega
  | k + 1, dd, mm, b, st, h, m1, m3, hS, hb => by
    have hcg := cR_ge dd
    unfold Gn
    rw [L_rule, m_rule]
    simp only [Wp_run, WS_seq, WS_asg, Wp_eCall, Wp_aCons, Wp_aNil, Wp_eV, Wp_eC, startE5]
    simp
    refine (draw_gn hS (by omega) (m := 6) (by omega) (by omega)).use fun d s1 hd hk1 hs1 => ?_
    obtain ⟨v, rfl, hv⟩ := hd
    have hplain : Wp (L_plain [.cel n, .lst (fs.map D.str), .int 3] s1) (fun d s => RuleIs dd d ∧ Keep n st s ∧ Src n (b + cR dd) s) E_ :=
      (plain_gn hs1 (by omega) h2 h3 hf).use fun d s hd hk hs => by
        obtain ⟨p, rfl, hp⟩ := hd
        exact ⟨⟨.pl p, rfl, hp, by simp [Rl.dep]⟩, hk1.trans hk, hs.mono (by omega)⟩
    rw [mRmid]
    simp only [WS_seq, WS_if]
    have ht : (bOr (bAnd (tOf (eOp oLt (eV 3) (eC (.int 2)))) (tOf (eOp oGt (eV 5) (eC (.int 3))))) (bOr (tOf (eOp oLt (eV 5) (eC (.int 3)))) (tOf (eOp oEq (eV 4) (eC (.int 0)))))) [some (.cel n), some (.lst (fs.map D.str)), some (.int 3), some (.int mm), some (.int dd), some (.int v), none, none] s1 = .ok ((decide ((mm : Int) < 2) && decide ((3 : Int) < v)) || (decide ((v : Int) < 3) || decide ((dd : Int) = 0))) s1 := four_tests rfl rfl rfl (by simp [tOf, eOp, eV, eC, toB])
    rw [ht, Wp_ok]
    by_cases c : (mm < 2 ∧ 3 < v) ∨ v < 3 ∨ dd = 0
    · have hc : ((decide ((mm : Int) < 2) && decide ((3 : Int) < v)) || (decide ((v : Int) < 3) || decide ((dd : Int) = 0))) = true := by
        rcases c with ⟨c1, c2⟩ | c | c
        · rw [decide_eq_true (show (mm : Int) < 2 by omega), decide_eq_true (show (3 : Int) < v by omega)]; rfl
        · rw [decide_eq_true (show (v : Int) < 3 by omega)]; simp
        · rw [decide_eq_true (show (dd : Int) = 0 by omega)]; simp
      rw [if_pos hc]
      simp only [WS_ret, Wp_eCall, Wp_aCons, Wp_aNil, Wp_eV, List.getElem?_cons_succ, List.getElem?_cons_zero, Option.some.injEq, exists_eq_left']
      exact ⟨rfl, hplain⟩
    · have hc : ¬ ((decide ((mm : Int) < 2) && decide ((3 : Int) < v)) || (decide ((v : Int) < 3) || decide ((dd : Int) = 0))) = true := by
        intro z
        simp only [Bool.or_eq_true, Bool.and_eq_true, decide_eq_true_eq] at z
        exact c (by omega)
      rw [if_neg hc]
      obtain ⟨e, rfl⟩ : ∃ e, dd = e + 1 := ⟨dd - 1, by omega⟩
      have hce := cR_ge e
      have hcr : cR (e + 1) = 2 * cR e + 10 := rfl
      have ed : ∀ s : Sto, oSub (.int ((e + 1 : Nat) : Int)) (.int 1) s = .ok (.int (e : Nat)) s := by
        intro s
        rw [oSub_ii, show (((e + 1 : Nat) : Int) - 1) = ((e : Nat) : Int) by omega]
      have ht2 : tOf (eOp oEq (eV 5) (eC (.int 3))) [some (.cel n), some (.lst (fs.map D.str)), some (.int 3), some (.int mm), some (.int ((e + 1 : Nat) : Int)), some (.int v), none, none] s1 = .ok (decide ((v : Int) = 3)) s1 := by simp [tOf, eOp, eV, eC, toB]
      rw [WS_sNx, ht2, Wp_ok]
      by_cases a5 : v = 3
      · rw [if_pos (decide_eq_true (show (v : Int) = 3 by omega))]
        simp only [WS_ret, Wp_eTup, Wp_eCall, Wp_aCons, Wp_aNil, Wp_eV, Wp_eOp, Wp_eC, List.getElem?_cons_succ, List.getElem?_cons_zero, Option.some.injEq, exists_eq_left', ed, Wp_ok]
        refine ⟨rfl, ?_⟩
        refine (rule_gn h2 h3 hf k e mm (b + 1) s1 (by omega) m1 m3 hs1 (by omega)).use fun d s hd hk hs => ?_
        obtain ⟨a, rfl, ga, da⟩ := hd
        exact ⟨by simp, ⟨.no a, rfl, ga, by simp [Rl.dep]; omega⟩, hk1.trans hk, hs.mono (by omega)⟩
      · rw [if_neg (by rw [decide_eq_true_eq]; omega)]
        have em : oSub (.int (mm : Int)) (.int 1) s1 = .ok (.int ((mm - 1 : Nat) : Int)) s1 := by
          rw [oSub_ii, show ((mm : Int) - 1) = ((mm - 1 : Nat) : Int) by omega]
        simp only [WS_sNx, mRend, WS_seq, WS_asg, WS_ret, Wp_eOp, Wp_eTup, Wp_aCons, Wp_aNil, Wp_eCall, Wp_eV, Wp_eC, Wp_eLst, List.getElem?_cons_succ, List.getElem?_cons_zero, Option.some.injEq, exists_eq_left', em, Wp_ok, ed]
        refine ⟨rfl, (draw_gn hs1 (by omega) (m := ((mm - 1 : Nat) : Int)) (by omega) (by omega)).use fun d s2 hd hk2 hs2 => ?_⟩
        obtain ⟨u, rfl, hu⟩ := hd
        simp only [ed, oAdd_ii, Wp_ok, gN_eq, WG_some, List.set_cons_succ, List.set_cons_zero, List.getElem?_cons_succ, List.getElem?_cons_zero, Option.some.injEq, exists_eq_left', show (1 + (u : Int)) = ((1 + u : Nat) : Int) by omega]
        refine ⟨rfl, (rule_gn h2 h3 hf k e (1 + u) (b + 1 + 1) s2 (by omega) (by omega) (by omega) hs2 (by omega)).use fun d s3 hd hk3 hs3 => ?_⟩
        obtain ⟨a, rfl, ga, da⟩ := hd
        refine ⟨by simp, rfl, (pick_mk (t := false) (xs := [.str "both", .str "either"]) hs3 (by omega) (by simp) (by simp)).use fun d s4 hd hk4 hs4 => ?_⟩
        have es : oSub (.int (mm : Int)) (.int ((1 + u : Nat) : Int)) s4 = .ok (.int ((mm - (1 + u) : Nat) : Int)) s4 := by
          rw [oSub_ii, show ((mm : Int) - ((1 + u : Nat) : Int)) = ((mm - (1 + u) : Nat) : Int) by omega]
        rw [es, Wp_ok]
        refine ⟨rfl, (rule_gn h2 h3 hf k e (mm - (1 + u)) _ s4 (by omega) (by omega) (by omega) hs4 (by omega)).use fun d5 s5 hd5 hk5 hs5 => ?_⟩
        obtain ⟨a2, rfl, ga2, da2⟩ := hd5
        refine ⟨by simp, ?_, (((hk1.trans hk2).trans hk3).trans hk4).trans hk5, hs5.mono (by omega)⟩
        simp only [List.mem_cons, List.not_mem_nil, or_false] at hd
        rcases hd with rfl | rfl
        · exact ⟨.two true a a2, rfl, ⟨ga, ga2⟩, by simp [Rl.dep]; omega⟩
        · exact ⟨.two false a a2, rfl, ⟨ga, ga2⟩, by simp [Rl.dep]; omega⟩
end R
end DL

set_option Elab.async false
set_option linter.all false
set_option maxRecDepth 100000
set_option maxHeartbeats 1000000
namespace DL
open PySem PySem.Spec PyProof.Rows L2
namespace R
variable {st : Sto}
/-! ### the rule is shown -/
def cS : Rl → Nat
  | .pl _ => 1
  | .no r => 1 + cS r
  | .two _ r s => 1 + cS r + cS s
theorem cS_le : ∀ a : Rl, cS a + 1 ≤ 2 ^ a.dep
  | .pl _ => by simp [cS, Rl.dep]
  | .no r => by
    have := cS_le r
    simp only [cS, Rl.dep, Nat.pow_succ]
    omega
  | .two _ r s => by
    have h1 := cS_le r
    have h2 := cS_le s
    have e1 : 2 ^ r.dep ≤ 2 ^ max r.dep s.dep := Nat.pow_le_pow_right (by omega) (by omega)
    have e2 : 2 ^ s.dep ≤ 2 ^ max r.dep s.dep := Nat.pow_le_pow_right (by omega) (by omega)
    simp only [cS, Rl.dep, Nat.pow_succ]
    omega
theorem Wp_lc1 {P : D → Sto → Prop} {E : EK} {me : EM D} {env0 : Env'} {i : Nat} {d : D} {ds acc : List D} (h : Wp (me (env0.set i (some d)) st) (fun y s => acc.length < 100000 ∧ Wp (lcM (gN i) tT me env0 ds (acc ++ [y]) s) P E) E_) : Wp (lcM (gN i) tT me env0 (d :: ds) acc st) P E := by
  unfold lcM
  simp only [gN_eq, tT, if_true]
  cases q : me (env0.set i (some d)) st with
  | err c fs s => rw [q] at h; exact h.elim
  | bad => rw [q] at h; exact h.elim
  | ok y s =>
    rw [q] at h
    obtain ⟨h1, h2⟩ := (show acc.length < 100000 ∧ Wp (lcM (gN i) tT me env0 ds (acc ++ [y]) s) P E from h)
    show Wp (if acc.length < 100000 then _ else _) P E
    rw [if_pos h1]
    exact h2
theorem Wp_lc0 {P : D → Sto → Prop} {E : EK} {me : EM D} {env0 : Env'} {i : Nat} {acc : List D} (h : P (.lst acc) st) : Wp (lcM (gN i) tT me env0 [] acc st) P E := h
def meS (self : List D → Sto → Out D) : EM D := (eIf (tOf (eIsa "tuple" (eV 3))) (eCall 2 self (aCons (eV 0) (aCons (eV 3) aNil))) (eV 3))
theorem m_shown (self : List D → Sto → Out D) : m_L_shown_rule self = (sSeq (sAsg (eLc (iSq (eV 1)) (gN 3) tT (meS self) [3]) (gN 2))
    (sRet (eCall 2 L_pick (aCons (eV 0) (aCons (eLst (aCons (eV 2) (aCons (eCB tupleO (aCons (eV 2) aNil)) aNil))) aNil))))) := rfl
theorem Rl.dtup (a : Rl) : ∃ xs, a.d = .tup xs := by
  cases a with
  | pl p => exact ⟨_, rfl⟩
  | no r => exact ⟨_, rfl⟩
  | two b r s => cases b <;> exact ⟨_, rfl⟩
theorem meS_str {self : List D → Sto → Out D} {n : Nat} {a : D} {s : Str} {P : D → Sto → Prop} (h : P (.str s) st) : Wp (meS self ([some (.cel n), some a, none, none].set 3 (some (.str s))) st) P E_ := by
  simp [meS, tyN, isaB]
  exact h
theorem meS_int {self : List D → Sto → Out D} {n : Nat} {a : D} {s : Int} {P : D → Sto → Prop} (h : P (.int s) st) : Wp (meS self ([some (.cel n), some a, none, none].set 3 (some (.int s))) st) P E_ := by
  simp [meS, tyN, isaB]
  exact h
theorem meS_rl {self : List D → Sto → Out D} {n : Nat} {a : D} {r : Rl} {P : D → Sto → Prop} (h : Wp (self [.cel n, r.d] st) P E_) : Wp (meS self ([some (.cel n), some a, none, none].set 3 (some r.d)) st) P E_ := by
  obtain ⟨xs, e⟩ := r.dtup
  rw [e] at h ⊢
  simp [meS, tyN, isaB]
  exact h
theorem shown_end {n b : Nat} {q x3 : Option D} {xs : List D} {P : D → Sto → Prop} {N : Env' → Sto → Prop} {st0 : Sto} (hS : Src n b st) (hb : b + 1 ≤ 100000) (hk : Keep n st0 st) (h : ∀ (t : Bool) (s : Sto), Keep n st0 s → Src n (b + 1) s → P (mk t xs) s) :
    WS (sRet (eCall 2 L_pick (aCons (eV 0) (aCons (eLst (aCons (eV 2) (aCons (eCB tupleO (aCons (eV 2) aNil)) aNil))) aNil))) [some (.cel n), q, some (.lst xs), x3] st) N P E_ := by
  have e1 : tupleO [.lst xs] st = .ok (.tup xs) st := mk_tuple false xs
  simp only [WS_ret, Wp_eCall, Wp_aCons, Wp_aNil, Wp_eV, Wp_eLst, Wp_eCB, List.getElem?_cons_succ, List.getElem?_cons_zero, Option.some.injEq, exists_eq_left', e1, Wp_ok]
  refine ⟨by simp, rfl, (pick_mk (t := false) (xs := [.lst xs, .tup xs]) hS (by omega) (by simp) (by simp)).use fun d s hd hk2 hs => ?_⟩
  simp only [List.mem_cons, List.not_mem_nil, or_false] at hd
  rcases hd with rfl | rfl
  · exact h false s (hk.trans hk2) hs
  · exact h true s (hk.trans hk2) hs
theorem shown_gn {n : Nat} : ∀ (k : Nat) (a : Rl) (b : Nat) (st : Sto), a.dep ≤ k → Src n b st → b + cS a ≤ 100000 → Gn n (cS a) b st (L_shown_rule k [.cel n, a.d] st) (ShR a)
  | 0, a, b, st, h, _, _ => by cases a <;> simp [Rl.dep] at h
  | k + 1, .pl p, b, st, h, hS, hb => by
    unfold Gn
    rw [L_shown_rule, m_shown]
    simp only [Wp_run, WS_seq, WS_asg, Wp_eLc, Wp_iSq, Wp_eV, startE2]
    refine ⟨_, rfl, _, rfl, ?_⟩
    refine Wp_lc1 (meS_str ⟨by simp, ?_⟩)
    refine Wp_lc1 (meS_str ⟨by simp, ?_⟩)
    refine Wp_lc1 (meS_str ⟨by simp, ?_⟩)
    refine Wp_lc1 (meS_str ⟨by simp, ?_⟩)
    refine Wp_lc1 (meS_int ⟨by simp, ?_⟩)
    refine Wp_lc0 ?_
    exact shown_end (xs := p.l) hS hb (Keep.refl _ _) fun t s hk hs => ⟨.pl t p, hk, hs⟩
  | k + 1, .no r, b, st, h, hS, hb => by
    have hb' : b + (1 + cS r) ≤ 100000 := hb
    unfold Gn
    rw [L_shown_rule, m_shown]
    simp only [Wp_run, WS_seq, WS_asg, Wp_eLc, Wp_iSq, Wp_eV, startE2]
    refine ⟨_, rfl, _, rfl, ?_⟩
    refine Wp_lc1 (meS_str ⟨by simp, ?_⟩)
    refine Wp_lc1 (meS_rl ?_)
    refine (shown_gn k r b st (by simp [Rl.dep] at h; omega) hS (by omega)).use fun d s hd hk hs => ⟨by simp, Wp_lc0 ?_⟩
    exact shown_end (xs := [.str "not", d]) hs (by omega) hk fun t s hk hs => ⟨.no t hd, hk, hs.mono (by simp only [cS]; omega)⟩
  | k + 1, .two w r r2, b, st, h, hS, hb => by
    have hb' : b + (1 + cS r + cS r2) ≤ 100000 := hb
    unfold Gn
    rw [L_shown_rule, m_shown]
    simp only [Wp_run, WS_seq, WS_asg, Wp_eLc, Wp_iSq, Wp_eV, startE2]
    have ed : Rl.d (.two w r r2) = .tup [.str (twoW w), r.d, r2.d] := by cases w <;> rfl
    refine ⟨_, rfl, [.str (twoW w), r.d, r2.d], by rw [ed]; rfl, ?_⟩
    refine Wp_lc1 (meS_str ⟨by simp, ?_⟩)
    refine Wp_lc1 (meS_rl ?_)
    refine (shown_gn k r b st (by simp [Rl.dep] at h; omega) hS (by omega)).use fun d s hd hk hs => ⟨by simp, ?_⟩
    refine Wp_lc1 (meS_rl ?_)
    refine (shown_gn k r2 (b + cS r) s (by simp [Rl.dep] at h; omega) hs (by omega)).use fun d2 s2 hd2 hk2 hs2 => ⟨by simp, Wp_lc0 ?_⟩
    exact shown_end (xs := [.str (twoW w), d, d2]) hs2 (by omega) (hk.trans hk2) fun t s hk hs => ⟨.two t w hd hd2, hk, hs.mono (by simp only [cS]; omega)⟩
end R
end DL

set_option Elab.async false
set_option linter.all false
set_option maxRecDepth 100000
set_option maxHeartbeats 1000000
namespace DL
open PySem PySem.Spec PyProof.Rows L2
namespace R
variable {st : Sto}
/-! ### lowest terms -/
theorem low_back {P Q : Int} (hQ : 0 < Q) : (low P Q).1 * (g2 P Q : Int) = P ∧ (low P Q).2 * (g2 P Q : Int) = Q := by
  have h1 : (g2 P Q : Int) ∣ P := by
    have := Nat.gcd_dvd_left P.natAbs Q.natAbs
    exact Int.dvd_natAbs.mp (Int.natCast_dvd_natCast.mpr this)
  have h2 : (g2 P Q : Int) ∣ Q := by
    have := Nat.gcd_dvd_right P.natAbs Q.natAbs
    exact Int.dvd_natAbs.mp (Int.natCast_dvd_natCast.mpr this)
  exact ⟨Int.ediv_mul_cancel h1, Int.ediv_mul_cancel h2⟩
theorem low_fr0 {P Q : Int} (hP : 0 ≤ P) (hQ : 0 < Q) : 0 ≤ (low P Q).1 ∧ 0 < (low P Q).2 ∧ g2 (low P Q).1 (low P Q).2 = 1 ∧ (low P Q).1 ≤ P ∧ (low P Q).2 ≤ Q := by
  have hg := g2_pos (p := P) hQ
  obtain ⟨b1, b2⟩ := low_back (P := P) hQ
  have hg' : (1 : Int) ≤ (g2 P Q : Int) := by omega
  have e1 : (low P Q).1 = ((P.natAbs / g2 P Q : Nat) : Int) := by
    show P / (g2 P Q : Int) = _
    rw [Int.natCast_ediv, show (P.natAbs : Int) = P by omega]
  have e2 : (low P Q).2 = ((Q.natAbs / g2 P Q : Nat) : Int) := by
    show Q / (g2 P Q : Int) = _
    rw [Int.natCast_ediv, show (Q.natAbs : Int) = Q by omega]
  have n0 : 0 ≤ (low P Q).1 := by rw [e1]; exact Int.natCast_nonneg _
  have d0 : 0 < (low P Q).2 := by
    apply Int.pos_of_mul_pos_left (b := (g2 P Q : Int))
    · rw [b2]; exact hQ
    · omega
  have l1 : (low P Q).1 ≤ P := by
    rw [e1]
    have := Nat.div_le_self P.natAbs (g2 P Q)
    omega
  have l2 : (low P Q).2 ≤ Q := by
    rw [e2]
    have := Nat.div_le_self Q.natAbs (g2 P Q)
    omega
  refine ⟨n0, d0, ?_, l1, l2⟩
  unfold g2
  rw [e1, e2, Int.natAbs_natCast, Int.natAbs_natCast]
  exact Nat.gcd_div_gcd_div_gcd_of_pos_right (by omega)
theorem low_fr {P Q : Int} (hP : 0 ≤ P) (hQ : 0 < Q) (hP2 : P < 2 ^ 60) (hQ2 : Q < 2 ^ 60) : Fr (low P Q) ∧ (low P Q).1 ≤ P ∧ (low P Q).2 ≤ Q := by
  obtain ⟨h1, h2, h3, h4, h5⟩ := low_fr0 hP hQ
  exact ⟨⟨h1, by omega, h2, by omega, h3⟩, h4, h5⟩
/-- a step of time -/
structure Gap (c : Int × Int) : Prop where
  n0 : 0 ≤ c.1
  n1 : c.1 ≤ 5
  d0 : 0 < c.2
  d1 : c.2 ≤ 3
def pls (a c : Int × Int) : Int × Int := low (a.1 * c.2 + c.1 * a.2) (a.2 * c.2)
theorem plus_eq {a c : Int × Int} (ha : Fr a) (hc : Gap c) : L_plus [frD a, frD c] st = .ok (frD (pls a c)) st := by
  apply Wp.eq
  have := hc.n0; have := hc.n1; have h3 := hc.d0; have := hc.d1; have := ha.d0; have := ha.d1
  obtain ⟨h1, h2⟩ := mul60 ha.d0 h3 ha.d1 (by omega)
  simp [L_plus, m_L_plus, frD, ix0, ix1, oMul_ii (cMul_r (a := a.1) (b := c.2) (by omega) (by omega)), oMul_ii (cMul_l (a := c.1) (b := a.2) (by omega) (by omega)), oMul_ii (cMul_r (a := a.2) (b := c.2) (by omega) (by omega)), L_lean_eq h1 h2, pls]
theorem pls_ok {a c : Int × Int} {B : Int} (ha : Fr a) (hc : Gap c) (hB : 0 ≤ B) (hB2 : B < 2 ^ 50) (h1 : a.1 ≤ B) (h2 : a.2 ≤ B) : Fr (pls a c) ∧ (pls a c).1 ≤ 10 * B ∧ (pls a c).2 ≤ 10 * B ∧ ¬ (pls a c).1 * a.2 < a.1 * (pls a c).2 := by
  have c0 := hc.n0; have c1 := hc.n1; have d0 := hc.d0; have d1 := hc.d1; have a0 := ha.n0; have e0 := ha.d0
  have m1 : a.1 * c.2 ≤ B * 3 := Int.mul_le_mul h1 d1 (by omega) hB
  have m2 : c.1 * a.2 ≤ 5 * B := Int.mul_le_mul c1 h2 (by omega) (by omega)
  have m3 : a.2 * c.2 ≤ B * 3 := Int.mul_le_mul h2 d1 (by omega) hB
  have p1 : 0 ≤ a.1 * c.2 := Int.mul_nonneg a0 (by omega)
  have p2 : 0 ≤ c.1 * a.2 := Int.mul_nonneg c0 (by omega)
  have p3 : 0 < a.2 * c.2 := Int.mul_pos e0 d0
  obtain ⟨f1, f2, f3⟩ := low_fr (P := a.1 * c.2 + c.1 * a.2) (Q := a.2 * c.2) (by omega) p3 (by omega) (by omega)
  obtain ⟨b1, b2⟩ := low_back (P := a.1 * c.2 + c.1 * a.2) p3
  have hg := g2_pos (p := a.1 * c.2 + c.1 * a.2) p3
  refine ⟨f1, ?_, ?_, ?_⟩
  · show (low _ _).1 ≤ _
    omega
  · show (low _ _).2 ≤ _
    omega
  · intro hlt
    have hlt' : (low (a.1 * c.2 + c.1 * a.2) (a.2 * c.2)).1 * a.2 < a.1 * (low (a.1 * c.2 + c.1 * a.2) (a.2 * c.2)).2 := hlt
    generalize (low (a.1 * c.2 + c.1 * a.2) (a.2 * c.2)).1 = u at hlt' b1
    generalize (low (a.1 * c.2 + c.1 * a.2) (a.2 * c.2)).2 = v at hlt' b2
    generalize hG : (g2 (a.1 * c.2 + c.1 * a.2) (a.2 * c.2) : Int) = G at b1 b2
    have hG0 : 0 < G := by omega
    have k1 : u * a.2 * G < a.1 * v * G := Int.mul_lt_mul_of_pos_right hlt' hG0
    have k2 : u * a.2 * G = (a.1 * c.2 + c.1 * a.2) * a.2 := by rw [← b1]; grind
    have k3 : a.1 * v * G = a.1 * (a.2 * c.2) := by rw [← b2]; grind
    have k4 : (a.1 * c.2 + c.1 * a.2) * a.2 = a.1 * (a.2 * c.2) + c.1 * a.2 * a.2 := by grind
    have k5 : 0 ≤ c.1 * a.2 * a.2 := Int.mul_nonneg p2 (by omega)
    omega
theorem gap_gn {n b : Nat} (hS : Src n b st) (hb : b ≤ 1000000) : Gn n 1 b st (L_gap [.cel n] st) (fun d => ∃ c, d = frD c ∧ Gap c) := by
  unfold Gn
  simp only [L_gap, m_L_gap, Wp_run, WS_ret, Wp_eCall, Wp_aCons, Wp_aNil, Wp_eV, Wp_eLst, Wp_eTup, Wp_eC, startE1, List.getElem?_cons_zero, Option.some.injEq, exists_eq_left']
  simp only [short, List.length_cons, List.length_nil, decide_eq_true_eq]
  refine ⟨by omega, by omega, by omega, by omega, by omega, by omega, by omega, by omega, by omega, by omega, by omega, True.intro, ?_⟩
  refine (pick_mk (t := false) hS hb (by simp) (by simp)).use fun d s hd hk hs => ⟨?_, hk, hs⟩
  simp only [List.mem_cons, List.not_mem_nil, or_false] at hd
  rcases hd with rfl | rfl | rfl | rfl | rfl | rfl | rfl | rfl | rfl | rfl
  · exact ⟨(0, 1), rfl, by decide, by decide, by decide, by decide⟩
  · exact ⟨(0, 1), rfl, by decide, by decide, by decide, by decide⟩
  · exact ⟨(1, 2), rfl, by decide, by decide, by decide, by decide⟩
  · exact ⟨(1, 1), rfl, by decide, by decide, by decide, by decide⟩
  · exact ⟨(1, 1), rfl, by decide, by decide, by decide, by decide⟩
  · exact ⟨(3, 2), rfl, by decide, by decide, by decide, by decide⟩
  · exact ⟨(2, 1), rfl, by decide, by decide, by decide, by decide⟩
  · exact ⟨(1, 3), rfl, by decide, by decide, by decide, by decide⟩
  · exact ⟨(3, 1), rfl, by decide, by decide, by decide, by decide⟩
  · exact ⟨(5, 2), rfl, by decide, by decide, by decide, by decide⟩

theorem srt_app {e : Str × (Int × Int)} : ∀ (l : Int × Int) (r : Row), Srt l r → ¬ (e.2.1 * (lastT l r).2 < (lastT l r).1 * e.2.2) → Srt l (r ++ [e])
  | _, [], _, h => ⟨h, trivial⟩
  | _, a :: r, hs, h => ⟨hs.1, srt_app a.2 r hs.2 h⟩
theorem last_app {e : Str × (Int × Int)} : ∀ (l : Int × Int) (r : Row), lastT l (r ++ [e]) = e.2
  | _, [] => rfl
  | _, a :: r => last_app a.2 r
def RI (n b c : Nat) (fs : List Str) (st : Sto) (ds : List D) (env : Env') (s : Sto) : Prop := ∃ (r : Row) (t : Int × Int) (x : Option D), env = [some (.cel n), some (.lst (fs.map D.str)), some (.cel c), some (frD t), x] ∧ t = lastT (0, 1) r ∧ Fr t ∧ t.1 ≤ 10 ^ r.length ∧ t.2 ≤ 10 ^ r.length ∧ (∀ e ∈ r, EnGood e) ∧ Srt (0, 1) r ∧ r.length + ds.length ≤ 8 ∧ s[c]? = some (.lst (r.map enD)) ∧ Keep n st s ∧ Src n (b + 2 * r.length) s
def bdR : SM := (sSeq (sAsg (eCall 2 L_plus (aCons (eV 3) (aCons (eCall 1 L_gap (aCons (eV 0) aNil)) aNil))) (gN 3))
    (sExp (eBM isCel appO (eV 2) (aCons (eTup (aCons (eCall 2 L_pick (aCons (eV 0) (aCons (eV 1) aNil))) (aCons (eV 3) aNil))) aNil))))
theorem m_row : m_L_row = (sSeq (sPar 2 3 (aCons (eCel aNil) (aCons (eTup (aCons (eC (.int 0)) (aCons (eC (.int 1)) aNil))) aNil)))
    (sSeq (sFor (iR1 (aCons (eCall 2 L_draw (aCons (eV 0) (aCons (eC (.int 9)) aNil))) aNil)) (gN 4) bdR) (sRet (eFz (eV 2))))) := rfl
theorem ten_le {i : Nat} (h : i ≤ 8) : (10 : Int) ^ i ≤ 10 ^ 8 := by
  match i, h with
  | 0, _ => decide
  | 1, _ => decide
  | 2, _ => decide
  | 3, _ => decide
  | 4, _ => decide
  | 5, _ => decide
  | 6, _ => decide
  | 7, _ => decide
  | 8, _ => decide
theorem bdR_ok {n b c : Nat} {fs : List Str} {st0 : Sto} {R : D → Sto → Prop} {E : EK} (hne : fs ≠ []) (hfl : fs.length ≤ 3) (hf : ∀ x ∈ fs, nameS x = true) (hc : n < c) (hc2 : st0.length ≤ c) (hb : b + 16 ≤ 100000) {d : D} {ds : List D} {env : Env'} {s : Sto} (h : RI n b c fs st0 (d :: ds) env s) : WG (gN 4 d env s) fun e s => WS (bdR e s) (fun e s => RI n b c fs st0 ds e s) R E := by
  obtain ⟨r, t, x, rfl, ht, hfr, ht1, ht2, hg, hs, hl, hcell, hk, hS⟩ := h
  have hl' : r.length + (ds.length + 1) ≤ 8 := hl
  simp only [gN_eq, WG_some, List.set_cons_succ, List.set_cons_zero, bdR, WS_seq, WS_asg, Wp_eCall, Wp_aCons, Wp_aNil, Wp_eV, List.getElem?_cons_succ, List.getElem?_cons_zero, Option.some.injEq, exists_eq_left']
  refine ⟨rfl, (gap_gn hS (by omega)).use fun d1 s1 hd1 hk1 hs1 => ⟨rfl, ?_⟩⟩
  obtain ⟨g, rfl, gg⟩ := hd1
  rw [plus_eq hfr gg, Wp_ok]
  have hB := ten_le (i := r.length) (by omega)
  obtain ⟨f1, f2, f3, f4⟩ := pls_ok (B := (10 : Int) ^ r.length) hfr gg (Int.pow_nonneg (by omega)) (by omega) ht1 ht2
  simp only [gN_eq, WG_some, List.set_cons_succ, List.set_cons_zero, WS_exp, Wp_eBM, Wp_eTup, Wp_eCall, Wp_aCons, Wp_aNil, Wp_eV, List.getElem?_cons_succ, List.getElem?_cons_zero, Option.some.injEq, exists_eq_left']
  refine ⟨isCel_ok (hk1.cell hcell (by omega)), rfl, ?_⟩
  refine (pick_mk (t := false) (xs := fs.map D.str) hs1 (by omega) (by simpa using hne) (by simp; omega)).use fun d2 s2 hd2 hk2 hs2 => ⟨by simp, ?_⟩
  obtain ⟨w, hw, rfl⟩ := List.mem_map.mp hd2
  have c2 := hk2.cell (hk1.cell hcell (by omega)) (by omega)
  rw [app_ok c2 (by simp; omega), Wp_ok]
  refine ⟨r ++ [(w, pls t g)], pls t g, _, rfl, (last_app (e := (w, pls t g)) (0, 1) r).symm, f1, ?_, ?_, ?_, srt_app _ _ hs (by rw [← ht]; exact f4), by simp; omega, ?_, ((hk.trans hk1).trans hk2).setHi hc2, ?_⟩
  · simp only [List.length_append, List.length_cons, List.length_nil, Int.pow_succ]; omega
  · simp only [List.length_append, List.length_cons, List.length_nil, Int.pow_succ]; omega
  · intro e he
    rcases List.mem_append.mp he with he | he
    · exact hg e he
    · rw [List.mem_singleton.mp he]; exact ⟨hf w hw, f1⟩
  · rw [List.getElem?_set_self (List.getElem?_eq_some_iff.mp c2).1]
    simp [enD]
  · refine (hs2.mono ?_).setNe (by omega)
    simp; omega
theorem row_gn {n b : Nat} {fs : List Str} (hS : Src n b st) (hb : b + 17 ≤ 100000) (hne : fs ≠ []) (hfl : fs.length ≤ 3) (hf : ∀ x ∈ fs, nameS x = true) : Gn n 17 b st (L_row [.cel n, .lst (fs.map D.str)] st) (fun d => ∃ r : Row, d = rowD r ∧ RowGood r ∧ r.length ≤ 8) := by
  have hn := hS.lt
  unfold Gn
  rw [L_row, m_row]
  simp only [Wp_run, WS_seq, WS_par, Wp_eCel, Wp_eTup, Wp_aCons, Wp_aNil, Wp_eC, WS_for, Wp_iR1, Wp_eCall, Wp_eV, startE2]
  simp
  refine (draw_gn (hS.app (ext := [.lst []])) (by omega) (m := 9) (by omega) (by omega)).use fun d s1 hd hk1 hs1 => ?_
  obtain ⟨v, rfl, hv⟩ := hd
  rw [range_ok (by omega), Wp_ok]
  have c0 : (st ++ [Cell.lst []])[st.length]? = some (.lst []) := by simp
  refine WS_forM (RI n (b + 1) st.length fs st) (fun d ds env s hI => bdR_ok hne hfl hf hn (Nat.le_refl _) (by omega) hI) (fun env s hI => ?_) _ _ _ ?_
  · obtain ⟨r, t, x, rfl, ht, hfr, ht1, ht2, hg, hs, hl, hcell, hk, hS⟩ := hI
    have hl' : r.length + 0 ≤ 8 := hl
    simp [fz_cel hcell]
    exact ⟨⟨r, rfl, ⟨hg, hs, by omega⟩, by omega⟩, hk.setHi (Nat.le_refl _), (hS.mono (by omega)).setNe (by omega)⟩
  · exact ⟨[], (0, 1), _, rfl, rfl, fr01, by decide, by decide, fun e he => by simp at he, trivial, by simp; omega, hk1.cell c0 (by omega), (Keep.app _ _ _).trans hk1, hs1⟩
end R
end DL

set_option Elab.async false
set_option linter.all false
set_option maxRecDepth 100000
set_option maxHeartbeats 1000000
namespace DL
open PySem PySem.Spec PyProof.Rows L2
namespace R
variable {st : Sto}
/-! ### the row is shown -/
theorem F2.app {α β : Type} {R : α → β → Prop} : ∀ {l1 : List α} {l2 : List β} {a : α} {b : β}, F2 R l1 l2 → R a b → F2 R (l1 ++ [a]) (l2 ++ [b])
  | _, _, _, _, .nil, h => .cons h .nil
  | _, _, _, _, .cons r t, h => .cons r (F2.app t h)
def TI (n b c : Nat) (r : Row) (st : Sto) (ds : List D) (env : Env') (s : Sto) : Prop := ∃ (done rest : Row) (xs : List D) (x3 x4 x5 x6 : Option D), r = done ++ rest ∧ ds = rest.map enD ∧ env = [some (.cel n), some (rowD r), some (.cel c), x3, x4, x5, x6] ∧ F2 ShE done xs ∧ xs.length = done.length ∧ s[c]? = some (.lst xs) ∧ Keep n st s ∧ Src n (b + 2 * done.length) s
def bdS : SM := (sSeq (sAsg (eOp oAdd (eC (.int 1)) (eCall 2 L_draw (aCons (eV 0) (aCons (eC (.int 2)) aNil)))) (gN 5))
    (sSeq (sAsg (eTup (aCons (eOp oMul (eOp ixO (eV 4) (eC (.int 0))) (eV 5)) (aCons (eOp oMul (eOp ixO (eV 4) (eC (.int 1))) (eV 5)) aNil))) (gN 6))
    (sExp (eBM isCel appO (eV 2) (aCons (eCall 2 L_pick (aCons (eV 0) (aCons (eLst (aCons (eTup (aCons (eV 3) (aCons (eV 6) aNil))) (aCons (eLst (aCons (eV 3) (aCons (eCB listO (aCons (eV 6) aNil)) aNil))) (aCons (eTup (aCons (eV 3) (aCons (eCB listO (aCons (eV 6) aNil)) aNil))) aNil)))) aNil))) aNil)))))
theorem m_times : m_L_shown_times = (sSeq (sAsg (eCel aNil) (gN 2))
    (sSeq (sFor (iSq (eV 1)) (gT 2 (gsCons (gN 3) (gsCons (gN 4) gsNil))) bdS)
    (sRet (eCall 2 L_pick (aCons (eV 0) (aCons (eLst (aCons (eFz (eV 2)) (aCons (eCB tupleO (aCons (eV 2) aNil)) aNil))) aNil)))))) := rfl
theorem bdS_ok {n b c : Nat} {r : Row} {st0 : Sto} {R : D → Sto → Prop} {E : EK} (hg : ∀ e ∈ r, EnGood e) (hr : r.length ≤ 8) (hc : n < c) (hc2 : st0.length ≤ c) (hb : b + 16 ≤ 100000) {d : D} {ds : List D} {env : Env'} {s : Sto} (h : TI n b c r st0 (d :: ds) env s) : WG (gT 2 (gsCons (gN 3) (gsCons (gN 4) gsNil)) d env s) fun e s => WS (bdS e s) (fun e s => TI n b c r st0 ds e s) R E := by
  obtain ⟨done, rest, xs, x3, x4, x5, x6, hrr, hds, rfl, hF, hxl, hcell, hk, hS⟩ := h
  cases rest with
  | nil => cases hds
  | cons e rest =>
    rw [List.map_cons] at hds
    obtain ⟨rfl, rfl⟩ := List.cons.inj hds
    have hlen : done.length + (rest.length + 1) ≤ 8 := by rw [hrr] at hr; simpa using hr
    have he : EnGood e := hg e (by rw [hrr]; simp)
    have q1 := he.f.n0; have q2 := he.f.n1; have q3 := he.f.d0; have q4 := he.f.d1
    simp only [enD, gT, gsCons, gsNil, List.length_cons, List.length_nil, gN_eq, List.set_cons_succ, List.set_cons_zero, WG_some, if_true, bdS, WS_seq, WS_asg, Wp_eOp, Wp_eC, Wp_eCall, Wp_aCons, Wp_aNil, Wp_eV, List.getElem?_cons_succ, List.getElem?_cons_zero, Option.some.injEq, exists_eq_left']
    refine ⟨True.intro, (draw_gn hS (by omega) (m := 2) (by omega) (by omega)).use fun d1 s1 hd1 hk1 hs1 => ?_⟩
    obtain ⟨v, rfl, hv⟩ := hd1
    have mm1 : oMul (.int e.2.1) (.int (1 + (v : Int))) s1 = .ok (.int (e.2.1 * (1 + (v : Int)))) s1 := oMul_ii (cMul_r (by omega) (by omega))
    have mm2 : oMul (.int e.2.2) (.int (1 + (v : Int))) s1 = .ok (.int (e.2.2 * (1 + (v : Int)))) s1 := oMul_ii (cMul_r (by omega) (by omega))
    have lo : listO [.tup [.int (e.2.1 * (1 + (v : Int))), .int (e.2.2 * (1 + (v : Int)))]] s1 = .ok (.lst [.int (e.2.1 * (1 + (v : Int))), .int (e.2.2 * (1 + (v : Int)))]) s1 := rfl
    have c1 := hk1.cell hcell (by omega)
    simp only [oAdd_ii, Wp_ok, gN_eq, WG_some, List.set_cons_succ, List.set_cons_zero, List.getElem?_cons_succ, List.getElem?_cons_zero, Option.some.injEq, exists_eq_left', Wp_eTup, Wp_aCons, Wp_aNil, Wp_eOp, Wp_eV, Wp_eC, frD, ix0, ix1, mm1, mm2, WS_exp, Wp_eBM, Wp_eCall, Wp_eLst, Wp_eCB, lo, short, List.length_cons, List.length_nil]
    refine ⟨by simp, isCel_ok c1, by simp, by simp, by simp, by simp, trivial, ?_⟩
    refine (pick_mk (t := false) hs1 (by omega) (by simp) (by simp)).use fun d2 s2 hd2 hk2 hs2 => ?_
    have c2 := hk2.cell c1 (by omega)
    rw [app_ok c2 (by omega), Wp_ok]
    have hsh : ShE e d2 := by
      simp only [List.mem_cons, List.not_mem_nil, or_false] at hd2
      rcases hd2 with rfl | rfl | rfl
      · exact ⟨true, true, 1 + v, by omega, by omega, rfl⟩
      · exact ⟨false, false, 1 + v, by omega, by omega, rfl⟩
      · exact ⟨true, false, 1 + v, by omega, by omega, rfl⟩
    refine ⟨done ++ [e], rest, xs ++ [d2], _, _, _, _, by rw [hrr]; simp, rfl, rfl, hF.app hsh, by simp [hxl], ?_, ((hk.trans hk1).trans hk2).setHi hc2, ?_⟩
    · rw [List.getElem?_set_self (List.getElem?_eq_some_iff.mp c2).1]
    · refine (hs2.mono ?_).setNe (by omega)
      simp; omega
theorem times_gn {n b : Nat} {r : Row} (hS : Src n b st) (hb : b + 17 ≤ 100000) (hg : ∀ e ∈ r, EnGood e) (hr : r.length ≤ 8) : Gn n 17 b st (L_shown_times [.cel n, rowD r] st) (ShRow r) := by
  have hn := hS.lt
  unfold Gn
  rw [L_shown_times, m_times]
  simp only [Wp_run, WS_seq, WS_asg, Wp_eCel, Wp_aNil, gN_eq, WG_some, WS_for, Wp_iSq, Wp_eV, startE2, List.replicate, List.set_cons_succ, List.set_cons_zero, List.getElem?_cons_succ, List.getElem?_cons_zero, Option.some.injEq, exists_eq_left']
  refine ⟨rfl, _, rfl, ?_⟩
  have c0 : (st ++ [Cell.lst []])[st.length]? = some (.lst []) := by simp
  refine WS_forM (TI n b st.length r st) (fun d ds env s hI => bdS_ok hg hr hn (Nat.le_refl _) (by omega) hI) (fun env s hI => ?_) _ _ _ ?_
  · obtain ⟨done, rest, xs, x3, x4, x5, x6, hrr, hds, rfl, hF, hxl, hcell, hk, hS⟩ := hI
    cases rest with
    | cons _ _ => cases hds
    | nil =>
      rw [List.append_nil] at hrr
      subst hrr
      have k1 : Keep n st (s.set st.length (.fz xs)) := hk.setHi (Nat.le_refl _)
      have S1 : Src n (b + 2 * r.length) (s.set st.length (.fz xs)) := hS.setNe (by omega)
      have c1 : (s.set st.length (.fz xs))[st.length]? = some (.fz xs) := List.getElem?_set_self (List.getElem?_eq_some_iff.mp hcell).1
      have tu : tupleO [.cel st.length] (s.set st.length (.fz xs)) = .ok (.tup xs) (s.set st.length (.fz xs)) := by simp only [tupleO, seqOf, c1, Option.map_some, Cell.get]
      simp only [WS_ret, Wp_eCall, Wp_aCons, Wp_aNil, Wp_eV, Wp_eLst, Wp_eFz, Wp_eCB, List.getElem?_cons_succ, List.getElem?_cons_zero, Option.some.injEq, exists_eq_left', fz_cel hcell, Wp_ok, tu]
      refine ⟨by simp, rfl, (pick_mk (t := false) (xs := [.lst xs, .tup xs]) S1 (by omega) (by simp) (by simp)).use fun d s2 hd hk2 hs2 => ⟨?_, k1.trans hk2, hs2.mono (by omega)⟩⟩
      simp only [List.mem_cons, List.not_mem_nil, or_false] at hd
      rcases hd with rfl | rfl
      · exact ⟨false, xs, rfl, hF⟩
      · exact ⟨true, xs, rfl, hF⟩
  · exact ⟨[], r, [], _, _, _, _, rfl, rfl, rfl, .nil, rfl, c0, Keep.app _ _ _, hS.app⟩
theorem shRow_self : ∀ (r : Row), ShRow r (rowD r) := fun r => ⟨false, r.map enD, rfl, by
  induction r with
  | nil => exact .nil
  | cons e r ih => exact .cons (shE_self e) ih⟩
end R
end DL

set_option Elab.async false
set_option linter.all false
set_option maxRecDepth 100000
set_option maxHeartbeats 1000000
namespace DL
open PySem PySem.Spec PyProof.Rows L2
namespace R
variable {st : Sto}
@[simp] theorem pl_non : plainL .non = true := by simp [plainL]
@[simp] theorem pl_int (a : Int) : plainL (.int a) = true := by simp [plainL]
@[simp] theorem pl_tup (a : List D) : plainL (.tup a) = true := by simp [plainL]
@[simp] theorem pl_lst (a : List D) : plainL (.lst a) = true := by simp [plainL]
/-! ### entries that are refused -/
theorem nm_A : nameS "A" = false := by decide +kernel
theorem nm_a : nameS "a" = true := by decide +kernel
theorem nm_n : nameS "ninesigns" = false := by decide +kernel
theorem nm_0 : nameS "" = false := by decide +kernel
theorem inm_A : is_name [.str "A"] st = .ok (.bl false) st := by rw [is_name_str (by decide +kernel), nm_A]
theorem inm_a : is_name [.str "a"] st = .ok (.bl true) st := by rw [is_name_str (by decide +kernel), nm_a]
theorem inm_n : is_name [.str "ninesigns"] st = .ok (.bl false) st := by rw [is_name_str (by decide +kernel), nm_n]
theorem inm_0 : is_name [.str ""] st = .ok (.bl false) st := by rw [is_name_str (by decide +kernel), nm_0]
theorem inm_5 : is_name [.int 5] st = .ok (.bl false) st := is_name_eq (by simp) (fun s h => by cases h)
theorem inm_non : is_name [.non] st = .ok (.bl false) st := is_name_eq (by simp) (fun s h => by cases h)
theorem it_np {d : D} (hp : plainL d = true) (h : isP d = false) : is_time [d] st = .ok (.bl false) st := by
  apply Wp.eq
  simp [is_time, m_is_time, is_frac, m_is_frac, hp, h]
theorem it_10 : is_time [.tup [.int 1, .int 0]] st = .ok (.bl false) st := by
  apply Wp.eq
  simp [is_time, m_is_time, is_frac, m_is_frac, isP, its, ix0, ix1, isI]
theorem it_m : is_time [.tup [.int (-1), .int 3]] st = .ok (.bl false) st := by
  apply Wp.eq
  simp [is_time, m_is_time, is_frac, m_is_frac, isP, its, ix0, ix1, isI]
theorem it_t : is_time [.tup [.bl true, .int 1]] st = .ok (.bl false) st := by
  apply Wp.eq
  simp [is_time, m_is_time, is_frac, m_is_frac, isP, its, ix0, ix1, isI]
theorem it_s : is_time [.lst [.int 1, .str "1"]] st = .ok (.bl false) st := by
  apply Wp.eq
  simp [is_time, m_is_time, is_frac, m_is_frac, isP, its, lx0, lx1, isI]
theorem it_3 : is_time [.int 3] st = .ok (.bl false) st := it_np (by simp) (by simp [isP, its])
theorem it_1 : is_time [.tup [.int 1]] st = .ok (.bl false) st := it_np (by simp) (by simp [isP, its])
def odds9 (g : D) : List D := [.non, .int 5, .tup [.str "a"], .tup [.str "a", g, g], .tup [.str "A", g], .tup [.int 5, g], .tup [.non, g], .tup [.str "a", .int 3], .tup [.str "a", .tup [.int 1, .int 0]]]
def odds6 (g : D) : List D := [.tup [.str "a", .tup [.int 1]], .tup [.str "a", .tup [.int (-1), .int 3]], .tup [.str "a", .tup [.bl true, .int 1]], .tup [.str "a", .lst [.int 1, .str "1"]], .lst [.str "ninesigns", g], .tup [.str "", g]]
theorem odd_all {l : Int × Int} {g : D} : ∀ x ∈ odds9 g ++ odds6 g, OddAt l x := by
  intro x hx q c i s
  simp only [odds9, odds6, List.cons_append, List.nil_append, List.mem_cons, List.not_mem_nil, or_false] at hx
  rcases hx with rfl | rfl | rfl | rfl | rfl | rfl | rfl | rfl | rfl | rfl | rfl | rfl | rfl | rfl | rfl
  all_goals simp [tst, isP, its, ix0, ix1, lx0, lx1, inm_A, inm_a, inm_n, inm_0, inm_5, inm_non, it_3, it_1, it_10, it_m, it_t, it_s]
theorem is_less_w {a b : Int × Int} (h1 : 0 < a.2) (h2 : a.2 < 2 ^ 62) (h3 : 0 < b.2) (h4 : b.2 < 2 ^ 62) : is_less [frD a, frD b] st = .ok (.bl (decide (a.1 * b.2 < b.1 * a.2))) st := by
  apply Wp.eq
  simp [is_less, m_is_less, frD, ix0, ix1, oMul_ii (cMul_r (a := a.1) (b := b.2) (by omega) (by omega)), oMul_ii (cMul_r (a := b.1) (b := a.2) (by omega) (by omega))]
theorem odd_less {l : Int × Int} (hl : Fr l) (hp : 0 < l.1) : OddAt l (.tup [.str "a", frD (low l.1 (l.2 + 1))]) := by
  intro q c i s
  have d0 := hl.d0
  have d1 := hl.d1
  obtain ⟨n0, e0, lo, f2, f3⟩ := low_fr0 (P := l.1) (Q := l.2 + 1) (by omega) (by omega)
  obtain ⟨b1, b2⟩ := low_back (P := l.1) (Q := l.2 + 1) (by omega)
  have hg := g2_pos (p := l.1) (q := l.2 + 1) (by omega)
  generalize hf : low l.1 (l.2 + 1) = f at n0 e0 lo f2 f3 b1 b2
  have t1 : is_time [frD f] s = .ok (.bl true) s := is_time_mk (u := true) n0 e0
  have t2 : frac_of [frD f] s = .ok (frD f) s := by
    have := frac_of_mk (st := s) (u := true) (a := f.1) (b := f.2) e0 (by omega)
    have e := low_mul (p := f.1) (q := f.2) (m := 1) e0 (by omega) lo
    rw [Int.mul_one, Int.mul_one] at e
    rw [e] at this
    exact this
  have lt : f.1 * l.2 < l.1 * f.2 := by
    have hG0 : (0 : Int) < (g2 l.1 (l.2 + 1) : Int) := by omega
    generalize (g2 l.1 (l.2 + 1) : Int) = G at b1 b2 hG0
    apply Int.lt_of_mul_lt_mul_right (a := G) _ (by omega)
    have k2 : f.1 * l.2 * G = l.1 * l.2 := by rw [← b1]; grind
    have k3 : l.1 * f.2 * G = l.1 * (l.2 + 1) := by rw [← b2]; grind
    rw [k2, k3, Int.mul_add, Int.mul_one]
    omega
  have pp : isP (.tup [.str "a", frD f]) = true := by simp [isP, its]
  simp [tst, pp, ix0, ix1, inm_a, t1, t2, is_less_w e0 (by omega) d0 (by omega), lt]
/-! ### rows cut -/
theorem cut_to {xs : List D} {k : Nat} (h : k ≤ xs.length) : cutD xs none (some (k : Int)) = xs.take k := by
  unfold cutD
  rw [HT.sIx_none, HT.sIx_nat, List.drop_zero, Nat.sub_zero, Nat.min_eq_left h]
theorem cut_from {xs : List D} {k : Nat} (h : k ≤ xs.length) : cutD xs (some (k : Int)) none = xs.drop k := by
  unfold cutD
  rw [HT.sIx_none, HT.sIx_nat, Nat.min_eq_left h]
  exact List.take_of_length_le (by simp)
theorem srt_take : ∀ (l : Int × Int) (r : Row) (k : Nat), Srt l r → Srt l (r.take k)
  | _, _, 0, _ => by simp [Srt]
  | _, [], _ + 1, _ => trivial
  | _, e :: r, k + 1, h => ⟨h.1, srt_take e.2 r k h.2⟩
theorem last_take : ∀ (l : Int × Int) (r : Row) (k : Nat) (e : Str × (Int × Int)), r[k]? = some e → lastT l (r.take (k + 1)) = e.2
  | _, [], _, _, h => by simp at h
  | _, a :: r, 0, e, h => by simp at h; subst h; rfl
  | _, a :: r, k + 1, e, h => last_take a.2 r k e (by simpa using h)
theorem F2.self : ∀ (r : Row), F2 ShE r (r.map enD)
  | [] => .nil
  | e :: r => .cons (shE_self e) (F2.self r)
theorem refd_row {r : Row} {k : Nat} {o : D} (hr : RowGood r) (hk : k ≤ r.length) (ho : OddAt (lastT (0, 1) (r.take k)) o) : Refd (.lst ((r.map enD).take k ++ [o] ++ (r.map enD).drop k)) (k : Nat) := by
  intro st
  have h := timed_bad (st := st) (r := r.take k) (ds := (r.take k).map enD) (rest := (r.map enD).drop k) (o := o) (fun e he => hr.g e (List.mem_of_mem_take he)) (srt_take _ _ _ hr.s) (by have := hr.n; simp; omega) (F2.self _) ho
  have e1 : (r.map enD).take k ++ [o] ++ (r.map enD).drop k = (r.take k).map enD ++ o :: (r.map enD).drop k := by rw [List.map_take]; simp
  rw [e1]
  have el : (r.take k).length = k := by simp; omega
  rw [el] at h
  cases q : checked_timed [.lst ((r.take k).map enD ++ o :: (r.map enD).drop k)] st with
  | ok a s => rw [q] at h; exact h.elim
  | bad => rw [q] at h; exact h.elim
  | err c fs s =>
    rw [q] at h
    obtain ⟨rfl, rfl, x, rfl⟩ := (show c = "BadRow" ∧ fs = ixF (k : Nat) ∧ ∃ x, s = st ++ [x] from h)
    exact ⟨[x], rfl⟩
theorem refd_none {d : D} (h : isFn d = false) (hl : isL d = false) : Refd d 0 := fun st => ⟨[], by rw [List.append_nil]; exact timed_none h hl⟩
/-! ### comparisons of rows, times -/
theorem canLay_row : ∀ (r : Row), (∀ e ∈ r, EnGood e) → plainDs (r.map enD) = true ∧ PyData.canLayAll0 (pyDs (r.map enD)) = true ∧ PyData.depthAll (pyDs (r.map enD)) ≤ 2
  | [], _ => ⟨rfl, rfl, by simp [pyDs, PyData.depthAll]⟩
  | e :: r, h => by
    obtain ⟨h1, h2, h3⟩ := canLay_row r fun a ha => h a (List.mem_cons_of_mem _ ha)
    have hs := nameS_ok (h e (List.mem_cons_self ..)).s
    refine ⟨?_, ?_, ?_⟩
    · simp [plainDs, plainD, enD, frD, h1]
    · simp [pyDs, pyD, enD, frD, PyData.canLayAll0, PyData.canLay0, hs, h2]
    · simp [pyDs, pyD, enD, frD, PyData.depthAll, PyData.depth, h3]
theorem ne_nil {r : Row} (h : ∀ e ∈ r, EnGood e) : oNe (rowD r) (.lst []) st = .ok (.bl (!decide (r = []))) st := by
  obtain ⟨h1, h2, h3⟩ := canLay_row r h
  have f1 : fineD (rowD r) = true := by
    simp [fineD, rowD, plainD, h1, pyD, SeqAt.shaped, PyData.canLay0, h2, PyData.depth]
    omega
  have f2 : fineD (.lst []) = true := by simp [fineD, plainD, plainDs, pyD, pyDs, SeqAt.shaped, PyData.canLay0, PyData.canLayAll0, PyData.depth, PyData.depthAll]
  unfold oNe
  rw [f1, f2]
  cases r <;> simp [rowD, pyD, pyDs, PyData.eqv, PyData.eqvAll]
theorem fineD_fr (f : Int × Int) : fineD (frD f) = true := by simp [fineD, frD, plainD, plainDs, pyD, pyDs, SeqAt.shaped, PyData.canLay0, PyData.canLayAll0, PyData.depth, PyData.depthAll]
theorem ne_fr (f g : Int × Int) : oNe (frD f) (frD g) st = .ok (.bl (!decide (f = g))) st := by
  unfold oNe
  rw [fineD_fr, fineD_fr]
  obtain ⟨a, b⟩ := f
  obtain ⟨c, d⟩ := g
  simp only [frD, pyD, pyDs, PyData.eqv, PyData.eqvAll, Bool.and_self, if_true, Bool.and_true]
  congr 3
  by_cases h1 : a = c <;> by_cases h2 : b = d <;> simp [h1, h2]
theorem ix_m1 {r : Row} {e : Str × (Int × Int)} (h : r[r.length - 1]? = some e) : ixO (rowD r) (.int (-1)) st = .ok (enD e) st := by
  have hl : r.length - 1 < r.length := (List.getElem?_eq_some_iff.mp h).1
  have : atI (r.map enD) (-1) = some (enD e) := by
    have e1 : ixN (r.map enD).length (-1) = some (r.length - 1) := by
      unfold ixN
      rw [if_neg (by omega), if_pos (by simp; omega)]
      simp
      omega
    unfold atI
    rw [e1]
    simp [h]
  unfold ixO rowD seqOf
  simp [this]
end R
end DL

set_option Elab.async false
set_option linter.all false
set_option maxRecDepth 100000
set_option maxHeartbeats 1000000
namespace DL
open PySem PySem.Spec PyProof.Rows L2
namespace R
variable {st : Sto}
def BadIs (d : D) : Prop := ∃ (x : D) (k : Nat), d = .tup [x, .int k] ∧ Refd x k
def mBend : SM := (sRet (eTup (aCons (eOp oAdd (eOp oAdd (eSl (eV 1) pN (pI (eV 2))) (eLst (aCons (eCall 2 L_pick (aCons (eV 0) (aCons (eFz (eV 4)) aNil))) aNil))) (eSl (eV 1) (pI (eV 2)) pN)) (aCons (eV 2) aNil))))
def mBif : SM := (sIf (bAnd (tOf (eOp oGt (eV 2) (eC (.int 0)))) (tOf (eOp oNe (eOp ixO (eOp ixO (eV 1) (eOp oSub (eV 2) (eC (.int 1)))) (eC (.int 1))) (eTup (aCons (eC (.int 0)) (aCons (eC (.int 1)) aNil)))))) (sExp (eBM isCel appO (eV 4) (aCons (eTup (aCons (eC (.str "a")) (aCons (eCall 2 L_lean (aCons (eOp ixO (eOp ixO (eOp ixO (eV 1) (eOp oSub (eV 2) (eC (.int 1)))) (eC (.int 1))) (eC (.int 0))) (aCons (eOp oAdd (eOp ixO (eOp ixO (eOp ixO (eV 1) (eOp oSub (eV 2) (eC (.int 1)))) (eC (.int 1))) (eC (.int 1))) (eC (.int 1))) aNil))) aNil))) aNil))) sNx)
def e9 : EM D := (eCel (aCons (eC .non) (aCons (eC (.int 5)) (aCons (eTup (aCons (eC (.str "a")) aNil)) (aCons (eTup (aCons (eC (.str "a")) (aCons (eV 3) (aCons (eV 3) aNil)))) (aCons (eTup (aCons (eC (.str "A")) (aCons (eV 3) aNil))) (aCons (eTup (aCons (eC (.int 5)) (aCons (eV 3) aNil))) (aCons (eTup (aCons (eC .non) (aCons (eV 3) aNil))) (aCons (eTup (aCons (eC (.str "a")) (aCons (eC (.int 3)) aNil))) (aCons (eTup (aCons (eC (.str "a")) (aCons (eTup (aCons (eC (.int 1)) (aCons (eC (.int 0)) aNil))) aNil))) aNil))))))))))
def e6 : EM D := (eLst (aCons (eTup (aCons (eC (.str "a")) (aCons (eTup (aCons (eC (.int 1)) aNil)) aNil))) (aCons (eTup (aCons (eC (.str "a")) (aCons (eTup (aCons (eUn negO (eC (.int 1))) (aCons (eC (.int 3)) aNil))) aNil))) (aCons (eTup (aCons (eC (.str "a")) (aCons (eTup (aCons (eC (.bl true)) (aCons (eC (.int 1)) aNil))) aNil))) (aCons (eTup (aCons (eC (.str "a")) (aCons (eLst (aCons (eC (.int 1)) (aCons (eC (.str "1")) aNil))) aNil))) (aCons (eLst (aCons (eC (.str "ninesigns")) (aCons (eV 3) aNil))) (aCons (eTup (aCons (eC (.str "")) (aCons (eV 3) aNil))) aNil)))))))
def eGood : EM D := (eIf (tOf (eOp oNe (eV 1) (eLst aNil))) (eOp ixO (eOp ixO (eV 1) (eUn negO (eC (.int 1)))) (eC (.int 1))) (eTup (aCons (eC (.int 1)) (aCons (eC (.int 1)) aNil))))
def mBrest : SM := (sSeq (sPar 2 3 (aCons (eCall 2 L_draw (aCons (eV 0) (aCons (eOp oAdd (eCB lenO (aCons (eV 1) aNil)) (eC (.int 1))) aNil))) (aCons eGood aNil)))
    (sSeq (sAsg e9 (gN 4)) (sSeq (sAsg (eOp oAddC (eV 4) e6) (gN 4)) (sSeq mBif mBend))))
theorem m_bad : m_L_bad_row = (sSeq (sIf (tOf (eOp oEq (eCall 2 L_draw (aCons (eV 0) (aCons (eC (.int 4)) aNil))) (eC (.int 0)))) (sRet (eTup (aCons (eCall 2 L_pick (aCons (eV 0) (aCons (eLst (aCons (eC .non) (aCons (eC (.int 5)) (aCons (eC (.str "")) (aCons (eC .dic) (aCons (eC (.bl true)) (aCons (eC (.str "ab")) aNil))))))) aNil))) (aCons (eC (.int 0)) aNil)))) sNx) mBrest) := rfl
theorem e9_eq {q0 q1 q2 g : D} {q4 : Option D} : e9 [some q0, some q1, some q2, some g, q4] st = .ok (.cel st.length) (st ++ [.lst (odds9 g)]) := rfl
theorem e6_eq {q0 q1 q2 g : D} {q4 : Option D} : e6 [some q0, some q1, some q2, some g, q4] st = .ok (.lst (odds6 g)) st := rfl
theorem good_eq {q0 : D} {q2 q3 q4 : Option D} {r : Row} (h : ∀ e ∈ r, EnGood e) : ∃ g, eGood [some q0, some (rowD r), q2, q3, q4] st = .ok g st := by
  have ne := ne_nil (st := st) h
  by_cases hr : r = []
  · refine ⟨_, Wp.eq (a := .tup [.int 1, .int 1]) ?_⟩
    have e : (!decide (r = [])) = false := by simp [hr]
    rw [e] at ne
    simp only [eGood, Wp_eIf, Wp_tOf, Wp_eOp, Wp_eV, Wp_eLst, Wp_aNil, List.getElem?_cons_succ, List.getElem?_cons_zero, Option.some.injEq, exists_eq_left', ne, Wp_ok]
    simp
  · have hl : 0 < r.length := List.length_pos_iff.mpr hr
    have hm : r[r.length - 1]? = some r[r.length - 1] := List.getElem?_eq_getElem (by omega)
    refine ⟨_, Wp.eq (a := frD (r[r.length - 1]).2) ?_⟩
    have e : (!decide (r = [])) = true := by simp [hr]
    rw [e] at ne
    simp only [eGood, Wp_eIf, Wp_tOf, Wp_eOp, Wp_eV, Wp_eLst, Wp_aNil, List.getElem?_cons_succ, List.getElem?_cons_zero, Option.some.injEq, exists_eq_left', ne, Wp_ok]
    refine ⟨by simp, true, rfl, ?_⟩
    simp only [if_true, Wp_eOp, Wp_eV, Wp_eUn, Wp_eC, List.getElem?_cons_succ, List.getElem?_cons_zero, Option.some.injEq, exists_eq_left', negO, Wp_ok, ix_m1 hm]
    simp [enD, ix1]
theorem bend_ok {n b c k : Nat} {r : Row} {os : List D} {g : Option D} {st0 : Sto} {P : D → Sto → Prop} {N : Env' → Sto → Prop} (hr : RowGood r) (hk : k ≤ r.length) (hS : Src n b st) (hb : b + 1 ≤ 100000) (hc : n < c) (hc2 : st0.length ≤ c) (hcell : st[c]? = some (.lst os)) (hos : os ≠ []) (hol : os.length ≤ 1000) (ho : ∀ x ∈ os, OddAt (lastT (0, 1) (r.take k)) x) (hkp : Keep n st0 st)
    (h : ∀ (d : D) (s : Sto), BadIs d → Keep n st0 s → Src n (b + 1) s → P d s) : WS (mBend [some (.cel n), some (rowD r), some (.int k), g, some (.cel c)] st) N P E_ := by
  have hk' : k ≤ (r.map enD).length := by simpa using hk
  have hn := hr.n
  have s1 : ∀ s : Sto, slO (rowD r) none (some (k : Int)) s = .ok (.lst ((r.map enD).take k)) s := fun s => by rw [← cut_to hk']; rfl
  have s2 : ∀ s : Sto, slO (rowD r) (some (k : Int)) none s = .ok (.lst ((r.map enD).drop k)) s := fun s => by rw [← cut_from hk']; rfl
  simp only [mBend, WS_ret, Wp_eTup, Wp_aCons, Wp_aNil, Wp_eOp, Wp_eSl, Wp_eV, Wp_pN, Wp_pI, Wp_eLst, Wp_eCall, Wp_eFz, List.getElem?_cons_succ, List.getElem?_cons_zero, Option.some.injEq, exists_eq_left', D.int.injEq, s1, s2, Wp_ok, fz_cel hcell]
  refine ⟨rfl, (pick_mk (t := false) (xs := os) (hS.setNe (i := c) (c := .fz os) (by omega)) (by omega) hos (by omega)).use fun d s hd hk2 hs => ⟨by simp, ?_⟩⟩
  have a1 : oAdd (.lst ((r.map enD).take k)) (.lst [d]) s = .ok (.lst ((r.map enD).take k ++ [d])) s := by
    simp only [oAdd, lstOf]
    rw [if_pos (by simp; omega)]
  have a2 : oAdd (.lst ((r.map enD).take k ++ [d])) (.lst ((r.map enD).drop k)) s = .ok (.lst ((r.map enD).take k ++ [d] ++ (r.map enD).drop k)) s := by
    simp only [oAdd, lstOf]
    rw [if_pos (by simp; omega)]
  rw [a1, Wp_ok, a2, Wp_ok]
  refine ⟨by simp, h _ s ⟨_, k, rfl, refd_row hr hk (ho d hd)⟩ ((hkp.setHi hc2).trans hk2) hs⟩
theorem bad_gn {n b : Nat} {r : Row} (hS : Src n b st) (hb : b + 3 ≤ 100000) (hr : RowGood r) (hr8 : r.length ≤ 8) : Gn n 3 b st (L_bad_row [.cel n, rowD r] st) BadIs := by
  have hn := hS.lt
  unfold Gn
  rw [L_bad_row, m_bad]
  simp only [Wp_run, WS_seq, WS_if, Wp_tOf, Wp_eOp, Wp_eCall, Wp_aCons, Wp_aNil, Wp_eV, Wp_eC, startE2, List.replicate, List.getElem?_cons_succ, List.getElem?_cons_zero, Option.some.injEq, exists_eq_left']
  refine ⟨rfl, (draw_gn hS (by omega) (m := 4) (by omega) (by omega)).use fun d s1 hd hk1 hs1 => ?_⟩
  obtain ⟨v, rfl, hv⟩ := hd
  rw [oEq_ii, Wp_ok]
  refine ⟨_, rfl, ?_⟩
  by_cases hv0 : (v : Int) = 0
  · rw [if_pos (decide_eq_true hv0)]
    simp only [WS_ret, Wp_eTup, Wp_aCons, Wp_aNil, Wp_eC, Wp_eCall, Wp_eV, Wp_eLst, List.getElem?_cons_succ, List.getElem?_cons_zero, Option.some.injEq, exists_eq_left']
    refine ⟨by simp, rfl, (pick_mk (t := false) hs1 (by omega) (by simp) (by simp)).use fun d s2 hd hk2 hs2 => ⟨by simp, ⟨d, 0, rfl, ?_⟩, hk1.trans hk2, hs2.mono (by omega)⟩⟩
    simp only [List.mem_cons, List.not_mem_nil, or_false] at hd
    rcases hd with rfl | rfl | rfl | rfl | rfl | rfl <;> exact refd_none (by simp) (by simp [isL])
  · rw [if_neg (by rw [decide_eq_true_eq]; exact hv0), WS_sNx]
    have ln : ∀ s : Sto, lenO [rowD r] s = .ok (.int (r.length : Nat)) s := fun s => by simp [lenO, rowD, seqOf]
    simp only [mBrest, WS_seq, WS_par, Wp_eCall, Wp_aCons, Wp_aNil, Wp_eV, Wp_eOp, Wp_eCB, Wp_eC, List.getElem?_cons_succ, List.getElem?_cons_zero, Option.some.injEq, exists_eq_left', ln, Wp_ok, oAdd_ii]
    refine ⟨rfl, (draw_gn hs1 (by omega) (m := (r.length : Int) + 1) (by omega) (by omega)).use fun d s2 hd hk2 hs2 => ?_⟩
    obtain ⟨k, rfl, hk⟩ := hd
    have hk' : k ≤ r.length := by omega
    obtain ⟨g, hg⟩ := good_eq (st := s2) (q0 := .cel n) (q2 := none) (q3 := none) (q4 := none) hr.g
    rw [hg, Wp_ok]
    simp only [List.set_cons_succ, List.set_cons_zero, WS_asg, e9_eq, Wp_ok, gN_eq, WG_some, Wp_eOp, Wp_eV, List.getElem?_cons_succ, List.getElem?_cons_zero, Option.some.injEq, exists_eq_left', e6_eq]
    have lt2 := hs2.lt
    have ac : oAddC (.cel s2.length) (.lst (odds6 g)) (s2 ++ [.lst (odds9 g)]) = .ok (.cel (s2.length + 1)) (s2 ++ [.lst (odds9 g)] ++ [.lst (odds9 g ++ odds6 g)]) := by
      have e : lstOf (s2 ++ [Cell.lst (odds9 g)]) (.cel s2.length) = some (odds9 g) := by simp [lstOf, Cell.get]
      have e2 : lstOf (s2 ++ [Cell.lst (odds9 g)]) (.lst (odds6 g)) = some (odds6 g) := rfl
      unfold oAddC
      rw [e, e2]
      dsimp only
      rw [if_pos (by simp [odds9, odds6])]
      simp
    rw [ac, Wp_ok]
    have cc : (s2 ++ [Cell.lst (odds9 g)] ++ [Cell.lst (odds9 g ++ odds6 g)])[s2.length + 1]? = some (.lst (odds9 g ++ odds6 g)) := by
      rw [List.getElem?_append_right (by simp)]; simp
    have kp3 : Keep n st (s2 ++ [Cell.lst (odds9 g)] ++ [Cell.lst (odds9 g ++ odds6 g)]) := ((hk1.trans hk2).trans (Keep.app _ _ _)).trans (Keep.app _ _ _)
    have S3 : Src n (b + 1 + 1) (s2 ++ [Cell.lst (odds9 g)] ++ [Cell.lst (odds9 g ++ odds6 g)]) := hs2.app.app
    generalize (s2 ++ [Cell.lst (odds9 g)] ++ [Cell.lst (odds9 g ++ odds6 g)]) = s3 at cc kp3 S3
    have l2 : st.length ≤ s2.length := (hk1.trans hk2).1
    have fin : ∀ (d : D) (s : Sto), BadIs d → Keep n st s → Src n (b + 1 + 1 + 1) s → (fun d s => BadIs d ∧ Keep n st s ∧ Src n (b + 3) s) d s := fun d s h1 h2 h3 => ⟨h1, h2, h3.mono (by omega)⟩
    have plainEnd : WS (mBend [some (.cel n), some (rowD r), some (.int k), some g, some (.cel (s2.length + 1))] s3) (fun _ s => BadIs .non ∧ Keep n st s ∧ Src n (b + 3) s) (fun d s => BadIs d ∧ Keep n st s ∧ Src n (b + 3) s) E_ :=
      bend_ok hr hk' S3 (by omega) (by omega) (by omega) cc (by simp [odds9]) (by simp [odds9, odds6]) odd_all kp3 fin
    simp only [mBif, WS_if, Wp_bAnd, Wp_tOf, Wp_eOp, Wp_eV, Wp_eC, List.set_cons_succ, List.set_cons_zero, List.getElem?_cons_succ, List.getElem?_cons_zero, Option.some.injEq, exists_eq_left', oGt_ii, Wp_ok, D.bl.injEq]
    by_cases hk0 : (0 : Int) < k
    · rw [if_pos (decide_eq_true hk0)]
      have hm : r[k - 1]? = some (r[k - 1]'(by omega)) := List.getElem?_eq_getElem (by omega)
      generalize r[k - 1]'(by omega) = e at hm
      have he := hr.g e (List.mem_of_getElem? hm)
      have ix : ∀ s : Sto, ixO (rowD r) (.int ((k : Int) - 1)) s = .ok (enD e) s := fun s => by
        rw [show ((k : Int) - 1) = ((k - 1 : Nat) : Int) by omega]
        exact ixO_lst (by rw [List.getElem?_map, hm]; rfl)
      have ix' : ∀ s : Sto, ixO (enD e) (.int 1) s = .ok (frD e.2) s := fun s => ix1
      have z1 : ∀ s : Sto, Wp (eTup (aCons (eC (.int 0)) (aCons (eC (.int 1)) aNil)) [some (.cel n), some (rowD r), some (.int k), some g, some (.cel (s2.length + 1))] s) = fun P E => P (frD (0, 1)) s := fun s => by funext P E; simp [frD]
      simp only [Wp_tOf, Wp_eOp, Wp_eV, Wp_eC, List.getElem?_cons_succ, List.getElem?_cons_zero, Option.some.injEq, exists_eq_left', oSub_ii, Wp_ok, ix, ix', z1, ne_fr, D.bl.injEq]
      by_cases hz : e.2 = (0, 1)
      · rw [if_neg (by simp [hz]), WS_sNx]
        exact plainEnd
      · rw [if_pos (by simp [hz])]
        have d0 := he.f.d0
        have d1 := he.f.d1
        have hp : 0 < e.2.1 := by
          have n0 := he.f.n0
          have lo := he.f.lo
          by_cases hq : e.2.1 = 0
          · exfalso
            unfold g2 at lo
            rw [hq] at lo
            simp at lo
            exact hz (Prod.ext hq (by show e.2.2 = 1; omega))
          · omega
        have f0 : ∀ s : Sto, ixO (frD e.2) (.int 0) s = .ok (.int e.2.1) s := fun s => ix0
        have f1 : ∀ s : Sto, ixO (frD e.2) (.int 1) s = .ok (.int e.2.2) s := fun s => ix1
        have ll : ∀ s : Sto, L_lean [.int e.2.1, .int (e.2.2 + 1)] s = .ok (frD (low e.2.1 (e.2.2 + 1))) s := fun s => L_lean_eq (by omega) (by omega)
        simp only [WS_exp, Wp_eBM, Wp_eTup, Wp_aCons, Wp_aNil, Wp_eC, Wp_eCall, Wp_eOp, Wp_eV, List.getElem?_cons_succ, List.getElem?_cons_zero, Option.some.injEq, exists_eq_left', oSub_ii, oAdd_ii, Wp_ok, ix, ix', f0, f1, ll]
        refine ⟨isCel_ok cc, rfl, by simp, ?_⟩
        rw [app_ok cc (by simp [odds9, odds6]), Wp_ok]
        refine bend_ok hr hk' (S3.setNe (by omega)) (by omega) (by omega) (by omega) (List.getElem?_set_self (List.getElem?_eq_some_iff.mp cc).1) (by simp [odds9]) (by simp [odds9, odds6]) (fun x hx => ?_) (kp3.setHi (by omega)) fin
        rcases List.mem_append.mp hx with hx | hx
        · exact odd_all x hx
        · rw [List.mem_singleton.mp hx]
          have hl := last_take (0, 1) r (k - 1) e hm
          rw [show k - 1 + 1 = k by omega] at hl
          rw [hl]
          exact odd_less he.f hp
    · rw [if_neg (by rw [decide_eq_true_eq]; exact hk0)]
      simp only [Bool.false_eq_true, if_false, WS_sNx]
      exact plainEnd
end R
end DL

set_option Elab.async false
set_option linter.all false
set_option maxRecDepth 100000
set_option maxHeartbeats 1000000
namespace DL
open PySem PySem.Spec PyProof.Rows L2
namespace R
variable {st : Sto}
/-! ### the source -/
def SI (ns : List Int) (ds : List D) (env : Env') (s : Sto) : Prop := ∃ (g sd : Int) (x : Option D) (zs : List Int), ds = zs.map D.int ∧ env = [some (.scr ns), some (.int g), some (.int sd), x] ∧ 0 ≤ sd ∧ sd < 2147483647 ∧ s = []
def bdSrc : SM := (sSeq (sIf (bAnd (tOf (eOp oEq (eV 1) (eC (.int 0)))) (tOf (eOp oGe (eV 3) (eOp oPow (eC (.int 10)) (eC (.int 18)))))) (sAsg (eV 3) (gN 1)) sNx)
    (sAsg (eOp oMod (eCB intO (aCons (eOp oAdd (eOp oAdd (eOp oMul (eV 2) (eC (.int 37))) (eV 3)) (eC (.int 5))) aNil)) (eC (.int 2147483647))) (gN 2)))
theorem m_src : m_L_source = (sSeq (sAsg (eTup (aCons (eC (.int 0)) (aCons (eC (.int 23)) aNil))) (gT 2 (gsCons (gN 1) (gsCons (gN 2) gsNil))))
    (sSeq (sFor (iSq (eV 0)) (gN 3) bdSrc) (sRet (eCel (aCons (eV 1) (aCons (eV 2) (aCons (eC (.int 0)) aNil))))))) := rfl
theorem src_tail {S : D} {g sd z : Int} {N : Env' → Sto → Prop} {R : D → Sto → Prop} {E : EK} (h0 : 0 ≤ sd) (h1 : sd < 2147483647) (h : ∀ sd', 0 ≤ sd' → sd' < 2147483647 → N [some S, some (.int g), some (.int sd'), some (.int z)] st) :
    WS (sAsg (eOp oMod (eCB intO (aCons (eOp oAdd (eOp oAdd (eOp oMul (eV 2) (eC (.int 37))) (eV 3)) (eC (.int 5))) aNil)) (eC (.int 2147483647))) (gN 2) [some S, some (.int g), some (.int sd), some (.int z)] st) N R E := by
  obtain ⟨m, hm, _⟩ := mul_ex (st := st) (a := sd) (b := 37) (cMul_r (by omega) (by omega))
  obtain ⟨x, hx, x0, x1⟩ := mod_ex (st := st) (m + z + 5) (m := 2147483647) (by omega)
  simp only [WS_asg, Wp_eOp, Wp_eCB, Wp_aCons, Wp_aNil, Wp_eV, Wp_eC, List.getElem?_cons_succ, List.getElem?_cons_zero, Option.some.injEq, exists_eq_left', hm, Wp_ok, oAdd_ii, intO_i, hx, gN_eq, WG_some, List.set_cons_succ, List.set_cons_zero]
  exact h x x0 x1
theorem source_ok (ns : List Int) : Wp (L_source [.scr ns] []) (fun d s => d = .cel 0 ∧ Src 0 0 s) E_ := by
  rw [L_source, m_src]
  simp only [Wp_run, WS_seq, WS_asg, Wp_eTup, Wp_aCons, Wp_aNil, Wp_eC, gT, gsCons, gsNil, startE1, List.replicate, List.length_cons, List.length_nil, gN_eq, List.set_cons_succ, List.set_cons_zero, WG_some, if_true, WS_for, Wp_iSq, Wp_eV, List.getElem?_cons_zero, Option.some.injEq, exists_eq_left']
  refine ⟨by simp, _, rfl, ?_⟩
  refine WS_forM (SI ns) (fun d ds env s hI => ?_) (fun env s hI => ?_) _ _ _ ⟨0, 23, _, ns, rfl, rfl, by omega, by omega, rfl⟩
  · obtain ⟨g, sd, x, zs, hds, rfl, h0, h1, rfl⟩ := hI
    cases zs with
    | nil => cases hds
    | cons z zs =>
      rw [List.map_cons] at hds
      obtain ⟨rfl, rfl⟩ := List.cons.inj hds
      obtain ⟨w, hw⟩ := pow_ex (st := []) (a := 10) 18 (by omega) (by omega) (by omega) (by omega)
      simp only [gN_eq, WG_some, List.set_cons_succ, List.set_cons_zero, bdSrc, WS_seq, WS_if, Wp_bAnd, Wp_tOf, Wp_eOp, Wp_eV, Wp_eC, List.getElem?_cons_succ, List.getElem?_cons_zero, Option.some.injEq, exists_eq_left', oEq_ii, Wp_ok, D.bl.injEq, hw, oGe_ii]
      have fin : ∀ g' : Int, WS (sAsg (eOp oMod (eCB intO (aCons (eOp oAdd (eOp oAdd (eOp oMul (eV 2) (eC (.int 37))) (eV 3)) (eC (.int 5))) aNil)) (eC (.int 2147483647))) (gN 2) [some (.scr ns), some (.int g'), some (.int sd), some (.int z)] []) (fun e s => SI ns (zs.map D.int) e s) (fun d s => d = .cel 0 ∧ Src 0 0 s) E_ := fun g' => src_tail h0 h1 fun sd' a b => ⟨g', sd', _, zs, rfl, rfl, a, b, rfl⟩
      by_cases c1 : g = 0
      · rw [if_pos (decide_eq_true c1)]
        by_cases c2 : w ≤ z
        · rw [if_pos (decide_eq_true c2)]
          rw [WS_asg, Wp_eV]
          exact ⟨_, rfl, fin z⟩
        · rw [if_neg (by rw [decide_eq_true_eq]; exact c2), WS_sNx]
          exact fin g
      · rw [if_neg (by rw [decide_eq_true_eq]; exact c1)]
        simp only [Bool.false_eq_true, if_false, WS_sNx]
        exact fin g
  · obtain ⟨g, sd, x, zs, hds, rfl, h0, h1, rfl⟩ := hI
    simp only [WS_ret, Wp_eCel, Wp_aCons, Wp_aNil, Wp_eV, Wp_eC, List.getElem?_cons_succ, List.getElem?_cons_zero, Option.some.injEq, exists_eq_left']
    exact ⟨by simp, rfl, g, sd, 0, rfl, by omega, by omega, by omega, by omega⟩
/-! ### equal things -/
mutual
theorem eqv_refl : ∀ x : PyData, PyData.canLay0 x = true → PyData.eqv x x = true
  | .none, _ => by simp [PyData.eqv]
  | .bool b, _ => by simp [PyData.eqv]
  | .int i, _ => by simp [PyData.eqv]
  | .str s, _ => by simp [PyData.eqv]
  | .list xs, h => by
    simp only [PyData.eqv]
    exact eqvAll_refl xs (by simpa [PyData.canLay0] using h)
  | .tuple xs, h => by
    simp only [PyData.eqv]
    exact eqvAll_refl xs (by simpa [PyData.canLay0] using h)
  | .dict _, h => by simp [PyData.canLay0] at h
theorem eqvAll_refl : ∀ xs : List PyData, PyData.canLayAll0 xs = true → PyData.eqvAll xs xs = true
  | [], _ => by simp [PyData.eqvAll]
  | x :: xs, h => by
    simp only [PyData.canLayAll0, Bool.and_eq_true] at h
    simp only [PyData.eqvAll, eqv_refl x h.1, eqvAll_refl xs h.2, Bool.and_self]
end
theorem ne_self {d : D} (h : fineD d = true) : oNe d d st = .ok (.bl false) st := by
  unfold oNe
  rw [h]
  have h2 : PyData.canLay0 (pyD d) = true := by
    unfold fineD at h
    simp only [Bool.and_eq_true] at h
    have := h.2
    unfold SeqAt.shaped at this
    simp only [Bool.and_eq_true] at this
    exact this.1
  simp [eqv_refl _ h2]
theorem so_row : PyData.strOk "row" = true := by decide +kernel
theorem so_plain : PyData.strOk "plain" = true := by decide +kernel
theorem fine_row (k : Int) : fineD (.tup [.str "row", .int k]) = true := by
  simp [fineD, plainD, plainDs, pyD, pyDs, SeqAt.shaped, PyData.canLay0, PyData.canLayAll0, PyData.depth, PyData.depthAll, so_row]
theorem fine_opt (o : Option Nat) : fineD (optD o) = true := by cases o <;> simp [optD]
theorem mk_py (t : Bool) (xs : List D) : plainD (mk t xs) = plainDs xs ∧ PyData.canLay0 (pyD (mk t xs)) = PyData.canLayAll0 (pyDs xs) ∧ PyData.depth (pyD (mk t xs)) = PyData.depthAll (pyDs xs) + 1 := by
  cases t <;> simp [mk, plainD, pyD, PyData.canLay0, PyData.depth]
theorem sh_py : ∀ {a : Rl} {d : D}, ShR a d → a.Good → plainD d = true ∧ PyData.canLay0 (pyD d) = true ∧ PyData.depth (pyD d) ≤ a.dep
  | _, _, .pl t p, h => by
    obtain ⟨h1, h2, h3⟩ := mk_py t p.l
    have hk : PyData.strOk p.kind = true := by rcases (PR.Good.toOk h).k with q | q <;> rw [q] <;> first | exact so_since | exact so_soon
    have hw : PyData.strOk p.w = true := by rcases (PR.Good.toOk h).w with q | q | q | q <;> rw [q] <;> first | exact so_upto | exact so_below | exact so_from | exact so_above
    rw [h1, h2, h3]
    refine ⟨by simp [PR.l, plainDs, plainD], by simp [PR.l, pyDs, pyD, PyData.canLayAll0, PyData.canLay0, hk, hw, (PR.Good.toOk h).a, (PR.Good.toOk h).b], by simp [PR.l, pyDs, pyD, PyData.depthAll, PyData.depth, Rl.dep]⟩
  | .no r, _, .no t (d := d) hs, h => by
    obtain ⟨g1, g2, g3⟩ := sh_py hs h
    obtain ⟨h1, h2, h3⟩ := mk_py t [.str "not", d]
    rw [h1, h2, h3]
    refine ⟨by simp [plainDs, plainD, g1], by simp [pyDs, pyD, PyData.canLayAll0, PyData.canLay0, so_not, g2], by simp [pyDs, pyD, PyData.depthAll, PyData.depth, Rl.dep]; omega⟩
  | .two b r r2, _, .two t _ (d := d) (e := e) hs hs2, h => by
    obtain ⟨g1, g2, g3⟩ := sh_py hs h.1
    obtain ⟨k1, k2, k3⟩ := sh_py hs2 h.2
    obtain ⟨h1, h2, h3⟩ := mk_py t [.str (twoW b), d, e]
    have hb : PyData.strOk (twoW b) = true := by cases b <;> first | exact so_both | exact so_either
    rw [h1, h2, h3]
    refine ⟨by simp [plainDs, plainD, g1, k1], by simp [pyDs, pyD, PyData.canLayAll0, PyData.canLay0, hb, g2, k2], by simp [pyDs, pyD, PyData.depthAll, PyData.depth, Rl.dep]; omega⟩
theorem fine_plain {a : Rl} {d : D} (hs : ShR a d) (hg : a.Good) (hd : a.dep ≤ 8) : fineD (.tup [.str "plain", d]) = true := by
  obtain ⟨h1, h2, h3⟩ := sh_py hs hg
  simp [fineD, plainD, plainDs, pyD, pyDs, SeqAt.shaped, PyData.canLay0, PyData.canLayAll0, PyData.depth, PyData.depthAll, so_plain, h1, h2]
  omega
end R
end DL

set_option Elab.async false
set_option linter.all false
set_option maxRecDepth 100000
set_option maxHeartbeats 1000000
namespace DL
open PySem PySem.Spec PyProof.Rows L2
namespace R
variable {st : Sto}
def b11 : SM := (sIf (tOf (eOp oNe (eV 10) (eV 11))) (sRet (eC (.bl false))) sNx)
def b10 : SM := (sSeq (sIf (tOf (eOp (inO true) (eOp ixO (eV 4) (eC (.int 0))) (eTup (aCons (eC (.str "since")) (aCons (eC (.str "soon")) aNil))))) (sAsg (eTup (aCons (eC (.str "plain")) (aCons (eV 6) aNil))) (gN 11)) sNx) b11)
def b9 : SM := (sSeq (sPar 10 11 (aCons (eLam triedO (eCall 2 first_broken (aCons (eV 6) (aCons (eV 8) aNil)))) (aCons (eTup (aCons (eC (.str "row")) (aCons (eV 9) aNil))) aNil))) b10)
def b8 : SM := (sSeq (sIf (tOf (eOp oNe (eLam triedO (eCall 2 keeps (aCons (eV 6) (aCons (eV 8) aNil)))) (eTup (aCons (eC (.str "row")) (aCons (eV 9) aNil))))) (sRet (eC (.bl false))) sNx) b9)
def b7 : SM := (sSeq (sAsg (eCall 2 L_bad_row (aCons (eV 1) (aCons (eV 5) aNil))) (gT 2 (gsCons (gN 8) (gsCons (gN 9) gsNil)))) b8)
def b6 : SM := (sSeq (sIf (bOr (tOf (eOp oNe (eCall 2 keeps (aCons (eV 7) (aCons (eV 5) aNil))) (eOp oIsN (eCall 2 L_broken (aCons (eV 7) (aCons (eV 5) aNil))) (eC .non)))) (tOf (eOp oEq (eCall 2 keeps (aCons (eTup (aCons (eC (.str "not")) (aCons (eV 7) aNil))) (aCons (eV 5) aNil))) (eCall 2 keeps (aCons (eV 7) (aCons (eV 5) aNil)))))) (sRet (eC (.bl false))) sNx) b7)
def b5 : SM := (sSeq (sIf (tOf (eOp oNe (eCall 2 first_broken (aCons (eCall 2 (L_shown_rule 8) (aCons (eV 1) (aCons (eV 7) aNil))) (aCons (eCall 2 L_shown_times (aCons (eV 1) (aCons (eV 5) aNil))) aNil))) (eCall 2 L_broken (aCons (eV 7) (aCons (eV 5) aNil))))) (sRet (eC (.bl false))) sNx) b6)
def b4 : SM := (sSeq (sAsg (eCall 3 L_plain (aCons (eV 1) (aCons (eV 3) (aCons (eC (.int 3)) aNil)))) (gN 7)) b5)
def b3 : SM := (sSeq (sIf (tOf (eOp oNe (eCall 2 keeps (aCons (eV 6) (aCons (eCall 2 L_shown_times (aCons (eV 1) (aCons (eV 5) aNil))) aNil))) (eCall 2 (L_keeps 8) (aCons (eV 4) (aCons (eV 5) aNil))))) (sRet (eC (.bl false))) sNx) b4)
def b2 : SM := (sSeq (sAsg (eCall 2 (L_shown_rule 8) (aCons (eV 1) (aCons (eV 4) aNil))) (gN 6)) b3)
def b1 : SM := (sSeq (sPar 4 5 (aCons (eCall 5 (L_rule 8) (aCons (eV 1) (aCons (eV 3) (aCons (eC (.int 3)) (aCons (eC (.int 3)) (aCons (eC (.int 3)) aNil)))))) (aCons (eCall 2 L_row (aCons (eV 1) (aCons (eV 3) aNil))) aNil))) b2)
def b0 : SM := (sSeq (sAsg (eCall 2 L_words (aCons (eV 1) (aCons (eOp oAdd (eC (.int 2)) (eCall 2 L_draw (aCons (eV 1) (aCons (eC (.int 2)) aNil)))) aNil))) (gN 3)) b1)
theorem m_lawE : m_law = (sSeq (sAsg (eCall 1 L_source (aCons (eV 0) aNil)) (gN 1)) (sSeq (sFor (iR1 (aCons (eC (.int 6)) aNil)) (gN 2) b0) (sRet (eC (.bl true))))) := rfl
/-- what one turn leaves -/
def Nx (ns : List Int) (B : Nat) (e : Env') (s : Sto) : Prop := ∃ x2 x3 x4 x5 x6 x7 x8 x9 x10 x11, e = [some (.scr ns), some (.cel 0), x2, x3, x4, x5, x6, x7, x8, x9, x10, x11] ∧ Src 0 B s
section
variable {ns : List Int} {R : D → Sto → Prop} {B b k : Nat} {x2 x7 x8 x9 x10 x11 : Option D} {fs : List Str} {a : Rl} {r : Row} {d6 bd fo du : D} {p : PR}
theorem b11_ok {x4 x5 x6 : Option D} {x3 : Option D} (hS : Src 0 b st) (hb : b ≤ B) (hf : fineD fo = true) : WS (b11 [some (.scr ns), some (.cel 0), x2, x3, x4, x5, x6, x7, x8, x9, some fo, some fo] st) (Nx ns B) R E_ := by
  simp only [b11, WS_seq, WS_if, WS_asg, WS_par, WS_ret, Wp_tOf, Wp_eOp, Wp_eCall, Wp_aCons, Wp_aNil, Wp_eV, Wp_eC, Wp_eTup, Wp_eLam, List.set_cons_succ, List.set_cons_zero, List.getElem?_cons_succ, List.getElem?_cons_zero, Option.some.injEq, exists_eq_left', gN_eq, WG_some, Wp_ok, ne_self hf]
  refine ⟨_, rfl, ?_⟩
  simp only [Bool.false_eq_true, if_false, WS_sNx]
  exact ⟨_, _, _, _, _, _, _, _, _, _, rfl, hS.mono hb⟩
theorem b9_ok {x3 x5 : Option D} (hs : ShR a d6) (hg : a.Good) (hd : a.dep ≤ 8) (hbd : Refd bd (k : Nat)) (hS : Src 0 b st) (hb : b ≤ B) : WS (b9 [some (.scr ns), some (.cel 0), x2, x3, some a.d, x5, some d6, x7, some bd, some (.int (k : Nat)), x10, x11] st) (Nx ns B) R E_ := by
  rw [b9]
  simp only [WS_seq, WS_if, WS_asg, WS_par, WS_ret, Wp_tOf, Wp_eOp, Wp_eCall, Wp_aCons, Wp_aNil, Wp_eV, Wp_eC, Wp_eTup, Wp_eLam, List.set_cons_succ, List.set_cons_zero, List.getElem?_cons_succ, List.getElem?_cons_zero, Option.some.injEq, exists_eq_left', gN_eq, WG_some, Wp_ok]
  rcases pl_of (a := a) with ⟨p, rfl⟩ | hn
  · obtain ⟨ext, h1⟩ := first_bad (st := st) hs hg hbd
    have e1 : triedO (eCall 2 first_broken (aCons (eV 6) (aCons (eV 8) aNil)) [some (.scr ns), some (.cel 0), x2, x3, some (Rl.d (.pl p)), x5, some d6, x7, some bd, some (.int (k : Nat)), x10, x11]) st = .ok (.tup [.str "row", .int (k : Nat)]) (st ++ ext) := by
      simp [triedO, eCall, aCons, aNil, eV, h1, ixF]
    rw [e1, Wp_ok]
    refine ⟨by simp, ?_⟩
    have ep : Rl.d (.pl p) = p.d := rfl
    have i0 : ixO p.d (.int 0) (st ++ ext) = .ok (.str p.kind) (st ++ ext) := ixO_tup (i := 0) rfl
    have hin : inO true (.str p.kind) (.tup [.str "since", .str "soon"]) (st ++ ext) = .ok (.bl false) (st ++ ext) := by
      rcases (PR.Good.toOk hg).k with q | q <;> simp [inO, seqOf, fv, fvs, inV2, q]
    rw [b10, ep]
    simp only [WS_seq, WS_if, WS_asg, WS_par, WS_ret, Wp_tOf, Wp_eOp, Wp_eCall, Wp_aCons, Wp_aNil, Wp_eV, Wp_eC, Wp_eTup, Wp_eLam, List.set_cons_succ, List.set_cons_zero, List.getElem?_cons_succ, List.getElem?_cons_zero, Option.some.injEq, exists_eq_left', gN_eq, WG_some, Wp_ok, i0, hin]
    refine ⟨by simp, false, rfl, ?_⟩
    simp only [Bool.false_eq_true, if_false, WS_sNx]
    exact b11_ok hS.app hb (fine_row _)
  · have h1 := first_not (st := st) (b := bd) hs hg hd hn
    have e1 : triedO (eCall 2 first_broken (aCons (eV 6) (aCons (eV 8) aNil)) [some (.scr ns), some (.cel 0), x2, x3, some a.d, x5, some d6, x7, some bd, some (.int (k : Nat)), x10, x11]) st = .ok (.tup [.str "plain", d6]) st := by
      simp (decide := true) [triedO, eCall, aCons, aNil, eV, h1]
    rw [e1, Wp_ok]
    refine ⟨by simp, ?_⟩
    have hin : ∃ w : Str, ixO a.d (.int 0) st = .ok (.str w) st ∧ inO true (.str w) (.tup [.str "since", .str "soon"]) st = .ok (.bl true) st := by
      cases a with
      | pl p => exact absurd rfl (hn p)
      | no r => exact ⟨"not", tx0, by simp (decide := true) [inO, seqOf, fv, fvs, inV2]⟩
      | two b r s =>
        cases b
        · exact ⟨"either", tx0, by simp (decide := true) [inO, seqOf, fv, fvs, inV2]⟩
        · exact ⟨"both", tx0, by simp (decide := true) [inO, seqOf, fv, fvs, inV2]⟩
    obtain ⟨w, i0, hin⟩ := hin
    rw [b10]
    simp only [WS_seq, WS_if, WS_asg, WS_par, WS_ret, Wp_tOf, Wp_eOp, Wp_eCall, Wp_aCons, Wp_aNil, Wp_eV, Wp_eC, Wp_eTup, Wp_eLam, List.set_cons_succ, List.set_cons_zero, List.getElem?_cons_succ, List.getElem?_cons_zero, Option.some.injEq, exists_eq_left', gN_eq, WG_some, Wp_ok, i0, hin]
    refine ⟨by simp, true, rfl, ?_⟩
    simp only [if_true, WS_seq, WS_if, WS_asg, WS_par, WS_ret, Wp_tOf, Wp_eOp, Wp_eCall, Wp_aCons, Wp_aNil, Wp_eV, Wp_eC, Wp_eTup, Wp_eLam, List.set_cons_succ, List.set_cons_zero, List.getElem?_cons_succ, List.getElem?_cons_zero, Option.some.injEq, exists_eq_left', gN_eq, WG_some, Wp_ok]
    refine ⟨by simp, ?_⟩
    exact b11_ok hS hb (fine_plain hs hg hd)
theorem b8_ok {x3 x5 : Option D} (hs : ShR a d6) (hg : a.Good) (hd : a.dep ≤ 8) (hbd : Refd bd (k : Nat)) (hS : Src 0 b st) (hb : b ≤ B) : WS (b8 [some (.scr ns), some (.cel 0), x2, x3, some a.d, x5, some d6, x7, some bd, some (.int (k : Nat)), x10, x11] st) (Nx ns B) R E_ := by
  obtain ⟨ext, h1⟩ := keeps_bad (st := st) hs hg hd hbd
  have e1 : triedO (eCall 2 keeps (aCons (eV 6) (aCons (eV 8) aNil)) [some (.scr ns), some (.cel 0), x2, x3, some a.d, x5, some d6, x7, some bd, some (.int (k : Nat)), x10, x11]) st = .ok (.tup [.str "row", .int (k : Nat)]) (st ++ ext) := by
    simp [triedO, eCall, aCons, aNil, eV, h1, ixF]
  rw [b8]
  simp only [WS_seq, WS_if, WS_asg, WS_par, WS_ret, Wp_tOf, Wp_eOp, Wp_eCall, Wp_aCons, Wp_aNil, Wp_eV, Wp_eC, Wp_eTup, Wp_eLam, List.set_cons_succ, List.set_cons_zero, List.getElem?_cons_succ, List.getElem?_cons_zero, Option.some.injEq, exists_eq_left', gN_eq, WG_some, Wp_ok, e1, ne_self (fine_row _)]
  refine ⟨by simp, false, rfl, ?_⟩
  simp only [Bool.false_eq_true, if_false, WS_sNx]
  exact b9_ok hs hg hd hbd hS.app hb
theorem b7_ok {x3 : Option D} (hs : ShR a d6) (hg : a.Good) (hd : a.dep ≤ 8) (hr : RowGood r) (hr8 : r.length ≤ 8) (hS : Src 0 b st) (hB : b + 3 ≤ B) (hB2 : B ≤ 100000) : WS (b7 [some (.scr ns), some (.cel 0), x2, x3, some a.d, some (rowD r), some d6, x7, x8, x9, x10, x11] st) (Nx ns B) R E_ := by
  rw [b7]
  simp only [WS_seq, WS_if, WS_asg, WS_par, WS_ret, Wp_tOf, Wp_eOp, Wp_eCall, Wp_aCons, Wp_aNil, Wp_eV, Wp_eC, Wp_eTup, Wp_eLam, List.set_cons_succ, List.set_cons_zero, List.getElem?_cons_succ, List.getElem?_cons_zero, Option.some.injEq, exists_eq_left', gN_eq, WG_some, Wp_ok]
  refine ⟨rfl, (bad_gn hS (by omega) hr hr8).use fun d s hd2 hk hs2 => ?_⟩
  obtain ⟨x, k, rfl, hx⟩ := hd2
  simp only [gT, gsCons, gsNil, List.length_cons, List.length_nil, if_true, WS_seq, WS_if, WS_asg, WS_par, WS_ret, Wp_tOf, Wp_eOp, Wp_eCall, Wp_aCons, Wp_aNil, Wp_eV, Wp_eC, Wp_eTup, Wp_eLam, List.set_cons_succ, List.set_cons_zero, List.getElem?_cons_succ, List.getElem?_cons_zero, Option.some.injEq, exists_eq_left', gN_eq, WG_some, Wp_ok]
  exact b8_ok hs hg hd hx hs2 hB
theorem b6_ok {x3 : Option D} (hs : ShR a d6) (hg : a.Good) (hd : a.dep ≤ 8) (hp : p.Good) (hr : RowGood r) (hr8 : r.length ≤ 8) (hS : Src 0 b st) (hB : b + 3 ≤ B) (hB2 : B ≤ 100000) : WS (b6 [some (.scr ns), some (.cel 0), x2, x3, some a.d, some (rowD r), some d6, some p.d, x8, x9, x10, x11] st) (Nx ns B) R E_ := by
  have sp : ShR (.pl p) p.d := .pl true p
  have sn : ShR (.no (.pl p)) (.tup [.str "not", p.d]) := .no true sp
  obtain ⟨y1, h1⟩ := keeps_good (st := st) sp hp (by simp [Rl.dep]) hr (shRow_self r)
  have h2 := L_broken_eq (st := st ++ [y1]) hp.toOk (fun e he => (hr.g e he).ok)
  obtain ⟨y3, h3⟩ := keeps_good (st := st ++ [y1]) sn hp (by simp [Rl.dep]) hr (shRow_self r)
  obtain ⟨y4, h4⟩ := keeps_good (st := st ++ [y1] ++ [y3]) sp hp (by simp [Rl.dep]) hr (shRow_self r)
  have ek : keptB r (.pl p) = (brkAt p r r.zipIdx).isNone := rfl
  have en : keptB r (.no (.pl p)) = !keptB r (.pl p) := rfl
  rw [b6]
  simp only [WS_seq, WS_if, WS_asg, WS_par, WS_ret, Wp_tOf, Wp_eOp, Wp_eCall, Wp_aCons, Wp_aNil, Wp_eV, Wp_eC, Wp_eTup, Wp_eLam, List.set_cons_succ, List.set_cons_zero, List.getElem?_cons_succ, List.getElem?_cons_zero, Option.some.injEq, exists_eq_left', gN_eq, WG_some, Wp_ok, Wp_bOr, h1, h2, isN_opt, ek, oNe_bb]
  refine ⟨rfl, rfl, _, rfl, ?_⟩
  rw [if_neg (by simp)]
  simp only [WS_seq, WS_if, WS_asg, WS_par, WS_ret, Wp_tOf, Wp_eOp, Wp_eCall, Wp_aCons, Wp_aNil, Wp_eV, Wp_eC, Wp_eTup, Wp_eLam, List.set_cons_succ, List.set_cons_zero, List.getElem?_cons_succ, List.getElem?_cons_zero, Option.some.injEq, exists_eq_left', gN_eq, WG_some, Wp_ok, h3, h4, en, ek, oEq_bb]
  refine ⟨by simp, rfl, rfl, _, rfl, ?_⟩
  rw [if_neg (by cases (brkAt p r r.zipIdx).isNone <;> simp), WS_sNx]
  exact b7_ok hs hg hd hr hr8 hS.app.app.app hB hB2
theorem b5_ok {x3 : Option D} (hs : ShR a d6) (hg : a.Good) (hd : a.dep ≤ 8) (hp : p.Good) (hr : RowGood r) (hr8 : r.length ≤ 8) (hS : Src 0 b st) (hB : b + 30 ≤ B) (hB2 : B ≤ 100000) : WS (b5 [some (.scr ns), some (.cel 0), x2, x3, some a.d, some (rowD r), some d6, some p.d, x8, x9, x10, x11] st) (Nx ns B) R E_ := by
  rw [b5]
  simp only [WS_seq, WS_if, WS_asg, WS_par, WS_ret, Wp_tOf, Wp_eOp, Wp_eCall, Wp_aCons, Wp_aNil, Wp_eV, Wp_eC, Wp_eTup, Wp_eLam, List.set_cons_succ, List.set_cons_zero, List.getElem?_cons_succ, List.getElem?_cons_zero, Option.some.injEq, exists_eq_left', gN_eq, WG_some, Wp_ok]
  refine ⟨rfl, (shown_gn 8 (.pl p) b st (by simp [Rl.dep]) hS (by simp [cS]; omega)).use fun d1 s1 hd1 hk1 hs1 => ⟨rfl, ?_⟩⟩
  have hs1' : Src 0 (b + 1) s1 := hs1
  refine (times_gn hs1' (by omega) hr.g hr8).use fun d2 s2 hd2 hk2 hs2 => ⟨rfl, ?_⟩
  obtain ⟨y, h1⟩ := first_good (st := s2) hd1 hp hr hd2
  have h2 := L_broken_eq (st := s2 ++ [y]) hp.toOk (fun e he => (hr.g e he).ok)
  rw [h1, Wp_ok]
  refine ⟨rfl, ?_⟩
  rw [h2, Wp_ok, ne_self (fine_opt _), Wp_ok]
  refine ⟨_, rfl, ?_⟩
  simp only [Bool.false_eq_true, if_false, WS_sNx]
  exact b6_ok hs hg hd hp hr hr8 hs2.app (by omega) hB2
theorem b3_ok (h2 : 2 ≤ fs.length) (h3 : fs.length ≤ 3) (hf : ∀ x ∈ fs, nameS x = true) (hs : ShR a d6) (hg : a.Good) (hd : a.dep ≤ 8) (hr : RowGood r) (hr8 : r.length ≤ 8) (hS : Src 0 b st) (hB : b + 60 ≤ B) (hB2 : B ≤ 100000) : WS (b3 [some (.scr ns), some (.cel 0), x2, some (.lst (fs.map D.str)), some a.d, some (rowD r), some d6, x7, x8, x9, x10, x11] st) (Nx ns B) R E_ := by
  rw [b3]
  simp only [WS_seq, WS_if, WS_asg, WS_par, WS_ret, Wp_tOf, Wp_eOp, Wp_eCall, Wp_aCons, Wp_aNil, Wp_eV, Wp_eC, Wp_eTup, Wp_eLam, List.set_cons_succ, List.set_cons_zero, List.getElem?_cons_succ, List.getElem?_cons_zero, Option.some.injEq, exists_eq_left', gN_eq, WG_some, Wp_ok]
  refine ⟨rfl, (times_gn hS (by omega) hr.g hr8).use fun d1 s1 hd1 hk1 hs1 => ⟨rfl, ?_⟩⟩
  obtain ⟨y, h1⟩ := keeps_good (st := s1) hs hg hd hr hd1
  have e2 := L_keeps_eq (st := s1 ++ [y]) (fun e he => (hr.g e he).ok) 8 a hg.ok hd
  rw [h1, Wp_ok]
  refine ⟨rfl, ?_⟩
  rw [e2, Wp_ok, oNe_bb, Wp_ok]
  refine ⟨_, rfl, ?_⟩
  rw [if_neg (by simp), WS_sNx, b4]
  simp only [WS_seq, WS_if, WS_asg, WS_par, WS_ret, Wp_tOf, Wp_eOp, Wp_eCall, Wp_aCons, Wp_aNil, Wp_eV, Wp_eC, Wp_eTup, Wp_eLam, List.set_cons_succ, List.set_cons_zero, List.getElem?_cons_succ, List.getElem?_cons_zero, Option.some.injEq, exists_eq_left', gN_eq, WG_some, Wp_ok]
  refine ⟨rfl, (plain_gn hs1.app (by omega) h2 h3 hf).use fun d2 s2 hd2 hk2 hs2 => ?_⟩
  obtain ⟨p, rfl, hp⟩ := hd2
  exact b5_ok hs hg hd hp hr hr8 hs2 (by omega) hB2
theorem b0_ok {x3 x4 x5 x6 : Option D} (hS : Src 0 b st) (hB : b + 1000 ≤ B) (hB2 : B ≤ 100000) : WS (b0 [some (.scr ns), some (.cel 0), x2, x3, x4, x5, x6, x7, x8, x9, x10, x11] st) (Nx ns B) R E_ := by
  rw [b0]
  simp only [WS_seq, WS_if, WS_asg, WS_par, WS_ret, Wp_tOf, Wp_eOp, Wp_eCall, Wp_aCons, Wp_aNil, Wp_eV, Wp_eC, Wp_eTup, Wp_eLam, List.set_cons_succ, List.set_cons_zero, List.getElem?_cons_succ, List.getElem?_cons_zero, Option.some.injEq, exists_eq_left', gN_eq, WG_some, Wp_ok]
  refine ⟨rfl, (draw_gn hS (by omega) (m := 2) (by omega) (by omega)).use fun d1 s1 hd1 hk1 hs1 => ?_⟩
  obtain ⟨v, rfl, hv⟩ := hd1
  rw [oAdd_ii, Wp_ok, show (2 + (v : Int)) = ((2 + v : Nat) : Int) by omega]
  obtain ⟨mv, hmv⟩ : ∃ mv, mv = 2 + v := ⟨_, rfl⟩
  rw [← hmv]
  have q1 : mv ≤ 3 := by omega
  have q2 : b + 1 + 9 * mv ≤ 100000 := by omega
  obtain ⟨d2, s2, e2, hd2, hk2, hs2⟩ := words_gn hs1 q1 q2
  refine ⟨rfl, ?_⟩
  rw [e2, Wp_ok]
  obtain ⟨fs, rfl, hl, hf⟩ := hd2
  rw [b1]
  simp only [WS_seq, WS_if, WS_asg, WS_par, WS_ret, Wp_tOf, Wp_eOp, Wp_eCall, Wp_aCons, Wp_aNil, Wp_eV, Wp_eC, Wp_eTup, Wp_eLam, List.set_cons_succ, List.set_cons_zero, List.getElem?_cons_succ, List.getElem?_cons_zero, Option.some.injEq, exists_eq_left', gN_eq, WG_some, Wp_ok]
  have c3 : cR 3 = 150 := rfl
  have hru := rule_gn (n := 0) (fs := fs) (by omega) (by omega) hf 8 3 3 _ s2 (by omega) (by omega) (by omega) hs2 (by omega)
  rw [show ((3 : Nat) : Int) = 3 from rfl] at hru
  refine ⟨rfl, hru.use fun d3 s3 hd3 hk3 hs3 => ⟨rfl, ?_⟩⟩
  obtain ⟨a, rfl, ga, da⟩ := hd3
  refine (row_gn hs3 (by omega) (by intro z; rw [z] at hl; simp at hl; omega) (by omega) hf).use fun d4 s4 hd4 hk4 hs4 => ?_
  obtain ⟨r, rfl, hr, hr8⟩ := hd4
  have hcs := cS_le a
  have hpw : 2 ^ a.dep ≤ 2 ^ 4 := Nat.pow_le_pow_right (by omega) da
  rw [b2]
  simp only [WS_seq, WS_if, WS_asg, WS_par, WS_ret, Wp_tOf, Wp_eOp, Wp_eCall, Wp_aCons, Wp_aNil, Wp_eV, Wp_eC, Wp_eTup, Wp_eLam, List.set_cons_succ, List.set_cons_zero, List.getElem?_cons_succ, List.getElem?_cons_zero, Option.some.injEq, exists_eq_left', gN_eq, WG_some, Wp_ok]
  refine ⟨rfl, (shown_gn 8 a _ s4 (by omega) hs4 (by omega)).use fun d5 s5 hd5 hk5 hs5 => ?_⟩
  exact b3_ok (by omega) (by omega) hf hd5 ga (by omega) hr hr8 hs5 (by omega) hB2
end
theorem law_true (ns : List Int) (h : ns.length ≤ 63) (hz : ∀ z ∈ ns, Builtin.Int.intBits z ≤ 1048576) : ∃ st, law [.scr ns] [] = .ok (.bl true) st := by
  have key : Wp (law [.scr ns] []) (fun d _ => d = .bl true) E_ := by
    rw [law, m_lawE]
    simp only [Wp_run, startE1, List.replicate, WS_seq, WS_if, WS_asg, WS_par, WS_ret, Wp_tOf, Wp_eOp, Wp_eCall, Wp_aCons, Wp_aNil, Wp_eV, Wp_eC, Wp_eTup, Wp_eLam, List.set_cons_succ, List.set_cons_zero, List.getElem?_cons_succ, List.getElem?_cons_zero, Option.some.injEq, exists_eq_left', gN_eq, WG_some, Wp_ok]
    refine ⟨rfl, (source_ok ns).mp fun d s hd => ?_⟩
    obtain ⟨rfl, hs⟩ := hd
    simp only [WS_for, Wp_iR1, WS_seq, WS_if, WS_asg, WS_par, WS_ret, Wp_tOf, Wp_eOp, Wp_eCall, Wp_aCons, Wp_aNil, Wp_eV, Wp_eC, Wp_eTup, Wp_eLam, List.set_cons_succ, List.set_cons_zero, List.getElem?_cons_succ, List.getElem?_cons_zero, Option.some.injEq, exists_eq_left', gN_eq, WG_some, Wp_ok]
    rw [show rangeD1 [.int 6] s = .ok ((List.range 6).map fun (k : Nat) => .int (0 + (k : Int))) s from range_ok (j := 6) (by omega), Wp_ok]
    refine WS_forM (fun ds env s => ∃ k : Nat, ds.length + k = 6 ∧ Nx ns (1000 * k) env s) (fun d ds env s hI => ?_) (fun env s hI => ?_) _ _ _ ⟨0, by simp, _, _, _, _, _, _, _, _, _, _, rfl, hs⟩
    · obtain ⟨k, hk, x2, x3, x4, x5, x6, x7, x8, x9, x10, x11, rfl, hS⟩ := hI
      have hk' : ds.length + 1 + k = 6 := hk
      simp only [gN_eq, WG_some, List.set_cons_succ, List.set_cons_zero]
      exact WS.imp (b0_ok (B := 1000 * (k + 1)) hS (by omega) (by omega)) (fun e s h => ⟨k + 1, by omega, h⟩) (fun _ _ h => h) fun _ _ _ h => h
    · simp
  obtain ⟨d, s, e, hd⟩ := key.ok_of
  rw [hd] at e
  exact ⟨s, e⟩
end R
end DL

set_option Elab.async false
set_option linter.all false
open PySem PySem.W PyProof.Rows
set_option maxRecDepth 100000 in
set_option maxHeartbeats 0 in
set_option pp.deepTerms false in
set_option pp.maxSteps 200 in
theorem PySem.Challenge.cw_rowsintime_k63_whole_rules_kept_holds : PySem.Challenge.rw_rowsintime_k63_whole_rules_kept.Holds := by
  w_on; o_law; k_head; (case hw => w_witness2)
  k_fill
  refine LamX.walk_ofTs (l := PySem.Challenge.rw_rowsintime_k63_whole_rules_kept) (n := 63) (k := 17) (x := "_law_script") (CX := fun w => L2.CX PySem.Challenge.rw_rowsintime_k63_whole_rules_kept.prog w) rfl (by decide) rfl ⟨rfl, by decide, by decide⟩ (fun w h Y => PySem.W.km_in_of Y) ?F ?hx
  case hx => exact fun w H s e s' z => by obtain ⟨_, _, _, _, _, _, _, _, _, _, _, _, z⟩ := z; exact z
  case F =>
    intro w mg fa h Y KX G hmg
    have hT8 := PySem.W.km_tabs_of Y 394 (List.mem_singleton.mpr rfl)
    have hmg2 : mg "law" = some (.ref fa) := hmg
    clear hmg Y
    refine' DL.R.the_law (Pt := 394) KX G hT8 ?nT ?hC ⟨?z_abs, ?z_all, ?z_any, ?z_bool, ?z_enumerate, ?z_int, ?z_isinstance, ?z_len, ?z_list, ?z_range, ?z_str, ?z_tuple, ?g_LOWERS, ?g_PLAIN, ?g_SIGNS, ?k_SIZES, ?g_UPPERS, ?g_ZERO, ?e_BadRow, ?e_BadRule, ?e_NotPlain⟩ ?F_is_integer ?F_is_natural ?F_is_list ?F_is_name ?F_is_pair ?F_is_of ?F_greatest_divisor ?F_lowest ?F_whole ?F_is_frac ?F_is_time ?F_frac_of ?F_minus ?F_is_less ?F_is_upto ?F_rule_at ?F_checked_rule ?F_checked_timed ?F_is_so_long ?F_has_other ?F_broken_at ?F_is_kept ?F_keeps ?F_check_plain ?F_first_broken ?F_L_source ?F_L_draw ?F_L_pick ?F_L_order ?F_L_words ?F_L_lean ?F_L_plus ?F_L_minus ?F_L_is_so ?F_L_shown_times ?F_L_gap ?F_L_plain ?F_L_rule ?F_L_shown_rule ?F_L_has_other ?F_L_broken ?F_L_keeps ?F_L_row ?F_L_bad_row ?F_tried ?ex hmg2 ?al ?lk ?hcd DL.R.law_true
    (case nT => kernel_rfl); (case al => k_is); (case lk => k_is); (case hcd => k_is); (case hC => kernel_rfl)
    case F_is_integer =>
      refine' DL.fnAt_mk KX G ?a ?l ?c ?k
      (case a => k_is); (case l => k_is); (case c => k_is); (case k => k_is)
    case F_is_natural =>
      refine' DL.fnAt_mk KX G ?a ?l ?c ?k
      (case a => k_is); (case l => k_is); (case c => k_is); (case k => k_is)
    case F_is_list =>
      refine' DL.fnAt_mk KX G ?a ?l ?c ?k
      (case a => k_is); (case l => k_is); (case c => k_is); (case k => k_is)
    case F_is_name =>
      refine' DL.fnAt_mk KX G ?a ?l ?c ?k
      (case a => k_is); (case l => k_is); (case c => k_is); (case k => k_is)
    case F_is_pair =>
      refine' DL.fnAt_mk KX G ?a ?l ?c ?k
      (case a => k_is); (case l => k_is); (case c => k_is); (case k => k_is)
    case F_is_of =>
      refine' DL.fnAt_mk KX G ?a ?l ?c ?k
      (case a => k_is); (case l => k_is); (case c => k_is); (case k => k_is)
    case F_greatest_divisor =>
      refine' DL.fnAt_mk KX G ?a ?l ?c ?k
      (case a => k_is); (case l => k_is); (case c => k_is); (case k => k_is)
    case F_lowest =>
      refine' DL.fnAt_mk KX G ?a ?l ?c ?k
      (case a => k_is); (case l => k_is); (case c => k_is); (case k => k_is)
    case F_whole =>
      refine' DL.fnAt_mk KX G ?a ?l ?c ?k
      (case a => k_is); (case l => k_is); (case c => k_is); (case k => k_is)
    case F_is_frac =>
      refine' DL.fnAt_mk KX G ?a ?l ?c ?k
      (case a => k_is); (case l => k_is); (case c => k_is); (case k => k_is)
    case F_is_time =>
      refine' DL.fnAt_mk KX G ?a ?l ?c ?k
      (case a => k_is); (case l => k_is); (case c => k_is); (case k => k_is)
    case F_frac_of =>
      refine' DL.fnAt_mk KX G ?a ?l ?c ?k
      (case a => k_is); (case l => k_is); (case c => k_is); (case k => k_is)
    case F_minus =>
      refine' DL.fnAt_mk KX G ?a ?l ?c ?k
      (case a => k_is); (case l => k_is); (case c => k_is); (case k => k_is)
    case F_is_less =>
      refine' DL.fnAt_mk KX G ?a ?l ?c ?k
      (case a => k_is); (case l => k_is); (case c => k_is); (case k => k_is)
    case F_is_upto =>
      refine' DL.fnAt_mk KX G ?a ?l ?c ?k
      (case a => k_is); (case l => k_is); (case c => k_is); (case k => k_is)
    case F_rule_at =>
      refine' DL.fnAt_mk KX G ?a ?l ?c ?k
      (case a => k_is); (case l => k_is); (case c => k_is); (case k => k_is)
    case F_checked_rule =>
      refine' DL.fnAt_mk KX G ?a ?l ?c ?k
      (case a => k_is); (case l => k_is); (case c => k_is); (case k => k_is)
    case F_checked_timed =>
      refine' DL.fnAt_mk KX G ?a ?l ?c ?k
      (case a => k_is); (case l => k_is); (case c => k_is); (case k => k_is)
    case F_is_so_long =>
      refine' DL.fnAt_mk KX G ?a ?l ?c ?k
      (case a => k_is); (case l => k_is); (case c => k_is); (case k => k_is)
    case F_has_other =>
      refine' DL.fnAt_mk KX G ?a ?l ?c ?k
      (case a => k_is); (case l => k_is); (case c => k_is); (case k => k_is)
    case F_broken_at =>
      refine' DL.fnAt_mk KX G ?a ?l ?c ?k
      (case a => k_is); (case l => k_is); (case c => k_is); (case k => k_is)
    case F_is_kept =>
      refine' DL.fnAt_mk KX G ?a ?l ?c ?k
      (case a => k_is); (case l => k_is); (case c => k_is); (case k => k_is)
    case F_keeps =>
      refine' DL.fnAt_mk KX G ?a ?l ?c ?k
      (case a => k_is); (case l => k_is); (case c => k_is); (case k => k_is)
    case F_check_plain =>
      refine' DL.fnAt_mk KX G ?a ?l ?c ?k
      (case a => k_is); (case l => k_is); (case c => k_is); (case k => k_is)
    case F_first_broken =>
      refine' DL.fnAt_mk KX G ?a ?l ?c ?k
      (case a => k_is); (case l => k_is); (case c => k_is); (case k => k_is)
    case F_L_source =>
      refine' DL.fnAt_mk KX G ?a ?l ?c ?k
      (case a => k_is); (case l => k_is); (case c => k_is); (case k => k_is)
    case F_L_draw =>
      refine' DL.fnAt_mk KX G ?a ?l ?c ?k
      (case a => k_is); (case l => k_is); (case c => k_is); (case k => k_is)
    case F_L_pick =>
      refine' DL.fnAt_mk KX G ?a ?l ?c ?k
      (case a => k_is); (case l => k_is); (case c => k_is); (case k => k_is)
    case F_L_order =>
      refine' DL.fnAt_mk KX G ?a ?l ?c ?k
      (case a => k_is); (case l => k_is); (case c => k_is); (case k => k_is)
    case F_L_words =>
      refine' DL.fnAt_mk KX G ?a ?l ?c ?k
      (case a => k_is); (case l => k_is); (case c => k_is); (case k => k_is)
    case F_L_lean =>
      refine' DL.fnAt_mk KX G ?a ?l ?c ?k
      (case a => k_is); (case l => k_is); (case c => k_is); (case k => k_is)
    case F_L_plus =>
      refine' DL.fnAt_mk KX G ?a ?l ?c ?k
      (case a => k_is); (case l => k_is); (case c => k_is); (case k => k_is)
    case F_L_minus =>
      refine' DL.fnAt_mk KX G ?a ?l ?c ?k
      (case a => k_is); (case l => k_is); (case c => k_is); (case k => k_is)
    case F_L_is_so =>
      refine' DL.fnAt_mk KX G ?a ?l ?c ?k
      (case a => k_is); (case l => k_is); (case c => k_is); (case k => k_is)
    case F_L_shown_times =>
      refine' DL.fnAt_mk KX G ?a ?l ?c ?k
      (case a => k_is); (case l => k_is); (case c => k_is); (case k => k_is)
    case F_L_gap =>
      refine' DL.fnAt_mk KX G ?a ?l ?c ?k
      (case a => k_is); (case l => k_is); (case c => k_is); (case k => k_is)
    case F_L_plain =>
      refine' DL.fnAt_mk KX G ?a ?l ?c ?k
      (case a => k_is); (case l => k_is); (case c => k_is); (case k => k_is)
    case F_L_rule =>
      refine' DL.fnAt_mk KX G ?a ?l ?c ?k
      (case a => k_is); (case l => k_is); (case c => k_is); (case k => k_is)
    case F_L_shown_rule =>
      refine' DL.fnAt_mk KX G ?a ?l ?c ?k
      (case a => k_is); (case l => k_is); (case c => k_is); (case k => k_is)
    case F_L_has_other =>
      refine' DL.fnAt_mk KX G ?a ?l ?c ?k
      (case a => k_is); (case l => k_is); (case c => k_is); (case k => k_is)
    case F_L_broken =>
      refine' DL.fnAt_mk KX G ?a ?l ?c ?k
      (case a => k_is); (case l => k_is); (case c => k_is); (case k => k_is)
    case F_L_keeps =>
      refine' DL.fnAt_mk KX G ?a ?l ?c ?k
      (case a => k_is); (case l => k_is); (case c => k_is); (case k => k_is)
    case F_L_row =>
      refine' DL.fnAt_mk KX G ?a ?l ?c ?k
      (case a => k_is); (case l => k_is); (case c => k_is); (case k => k_is)
    case F_L_bad_row =>
      refine' DL.fnAt_mk KX G ?a ?l ?c ?k
      (case a => k_is); (case l => k_is); (case c => k_is); (case k => k_is)
    case F_tried =>
      refine' DL.fnAt_mk KX G ?a ?l ?c ?k
      (case a => k_is); (case l => k_is); (case c => k_is); (case k => k_is)
    case z_abs =>
      refine' PySem.W.mg_none_of KX G ?a
      (case a => k_is)
    case z_all =>
      refine' PySem.W.mg_none_of KX G ?a
      (case a => k_is)
    case z_any =>
      refine' PySem.W.mg_none_of KX G ?a
      (case a => k_is)
    case z_bool =>
      refine' PySem.W.mg_none_of KX G ?a
      (case a => k_is)
    case z_enumerate =>
      refine' PySem.W.mg_none_of KX G ?a
      (case a => k_is)
    case z_int =>
      refine' PySem.W.mg_none_of KX G ?a
      (case a => k_is)
    case z_isinstance =>
      refine' PySem.W.mg_none_of KX G ?a
      (case a => k_is)
    case z_len =>
      refine' PySem.W.mg_none_of KX G ?a
      (case a => k_is)
    case z_list =>
      refine' PySem.W.mg_none_of KX G ?a
      (case a => k_is)
    case z_range =>
      refine' PySem.W.mg_none_of KX G ?a
      (case a => k_is)
    case z_str =>
      refine' PySem.W.mg_none_of KX G ?a
      (case a => k_is)
    case z_tuple =>
      refine' PySem.W.mg_none_of KX G ?a
      (case a => k_is)
    case g_LOWERS =>
      refine' ⟨_, PySem.W.mg_of KX G ?a, DL.krep_tup2s ?l⟩
      (case a => k_is); (case l => k_is)
    case g_PLAIN =>
      refine' ⟨_, PySem.W.mg_of KX G ?a, DL.krep_tup2s ?l⟩
      (case a => k_is); (case l => k_is)
    case g_SIGNS =>
      refine' ⟨_, PySem.W.mg_of KX G ?a, DL.krep_str⟩
      (case a => k_is)
    case k_SIZES =>
      refine' DL.kd_mk (PySem.W.mg_of KX G ?kdA) ?kdL ?kdT ?kdS ?kdP
      (case kdA => k_is); (case kdL => k_is)
      (case kdT => exact ⟨⟨_, _, rfl, rfl⟩, ⟨⟨_, _, rfl, rfl⟩, ⟨⟨_, _, rfl, rfl⟩, ⟨⟨_, _, rfl, rfl⟩, ⟨⟨_, _, rfl, rfl⟩, True.intro⟩⟩⟩⟩⟩)
      (case kdS => rfl)
      (case kdP => exact .cons ⟨⟨_, rfl⟩, DL.krep_int⟩ (.cons ⟨⟨_, rfl⟩, DL.krep_int⟩ (.cons ⟨⟨_, rfl⟩, DL.krep_int⟩ (.cons ⟨⟨_, rfl⟩, DL.krep_int⟩ (.cons ⟨⟨_, rfl⟩, DL.krep_int⟩ (.nil))))))
    case g_UPPERS =>
      refine' ⟨_, PySem.W.mg_of KX G ?a, DL.krep_tup2s ?l⟩
      (case a => k_is); (case l => k_is)
    case g_ZERO =>
      refine' ⟨_, PySem.W.mg_of KX G ?a, DL.krep_tup2i ?l⟩
      (case a => k_is); (case l => k_is)
    case e_BadRow =>
      refine' DL.errC_mk (s1 := DL.R.inCls (DL.R.top 23) 0) KX G ?a ?xL ?sa ?ga ?gg ?nb ?a1 ?t1 ?l1 ?c1 ?k1 ?kC ?eC ?tC ?hC ?hbm ⟨rfl, rfl, rfl, by decide +kernel, rfl, by decide +kernel, by decide +kernel⟩ rfl rfl rfl (fun _ _ _ _ _ _ us hl => match us, hl with | [_, _], _ => rfl)
      (case a => k_is); (case xL => k_is); (case sa => k_is); (case ga => k_is); (case gg => k_is); (case nb => k_is); (case a1 => k_is); (case t1 => k_is); (case l1 => k_is); (case c1 => k_is); (case k1 => k_is); (case kC => k_is); (case eC => k_is); (case tC => k_is); (case hC => k_is); (case hbm => decide +kernel)
    case e_BadRule =>
      refine' DL.errC_mk (s1 := DL.R.inCls (DL.R.top 24) 0) KX G ?a ?xL ?sa ?ga ?gg ?nb ?a1 ?t1 ?l1 ?c1 ?k1 ?kC ?eC ?tC ?hC ?hbm ⟨rfl, rfl, rfl, by decide +kernel, rfl, by decide +kernel, by decide +kernel⟩ rfl rfl rfl (fun _ _ _ _ _ _ us hl => match us, hl with | [_, _], _ => rfl)
      (case a => k_is); (case xL => k_is); (case sa => k_is); (case ga => k_is); (case gg => k_is); (case nb => k_is); (case a1 => k_is); (case t1 => k_is); (case l1 => k_is); (case c1 => k_is); (case k1 => k_is); (case kC => k_is); (case eC => k_is); (case tC => k_is); (case hC => k_is); (case hbm => decide +kernel)
    case e_NotPlain =>
      refine' DL.errC_mk (s1 := DL.R.inCls (DL.R.top 25) 0) KX G ?a ?xL ?sa ?ga ?gg ?nb ?a1 ?t1 ?l1 ?c1 ?k1 ?kC ?eC ?tC ?hC ?hbm ⟨rfl, rfl, rfl, by decide +kernel, rfl, by decide +kernel, by decide +kernel⟩ rfl rfl rfl (fun _ _ _ _ _ _ us hl => match us, hl with | [_, _], _ => rfl)
      (case a => k_is); (case xL => k_is); (case sa => k_is); (case ga => k_is); (case gg => k_is); (case nb => k_is); (case a1 => k_is); (case t1 => k_is); (case l1 => k_is); (case c1 => k_is); (case k1 => k_is); (case kC => k_is); (case eC => k_is); (case tC => k_is); (case hC => k_is); (case hbm => decide +kernel)
    case ex =>
      refine' DL.exmK2 (PySem.W.mg_of KX G ?a) (PySem.W.mg_of KX G ?b) (DL.exm_of ?s1 ?i1 ?t1 ?u1) (DL.exm_of ?s2 ?i2 ?t2 ?u2) (DL.exm_of ?s3 ?i3 ?t3 ?u3) (DL.exm_of ?s4 ?i4 ?t4 ?u4)
      (case a => k_is); (case b => k_is)
      (case s1 => k_is); (case i1 => k_is); (case t1 => k_is); (case u1 => first | rfl | k_is)
      (case s2 => k_is); (case i2 => k_is); (case t2 => k_is); (case u2 => first | rfl | k_is)
      (case s3 => k_is); (case i3 => k_is); (case t3 => k_is); (case u3 => first | rfl | k_is)
      (case s4 => k_is); (case i4 => k_is); (case t4 => k_is); (case u4 => first | rfl | k_is)

