import PyProof.Rows.All
import HandS.ForMost
import HandS.CallSlots
import HandS.WordsExc
import HandS.Wide
import KE.DataCmp
import KE.SortData
import KE.KDictKeyed
import HandS.TupAny
import HandS.TupMul
import HandS.WideBits
import HandS.Text
import HandS.Deep
import KE.KDictLaws
import HandS.TupLen
import HandS.IsInst
import HandS.Zip
import HandS.DictTup
import KE.KDictCopyH
import KE.KDictItemsList
import KE.KDictPairs
import HandS.TryMany
import HandS.Style
import PySem.Challenge.RW_whyanswers_k74_expected_numbers_of_match
set_option Elab.async false
set_option linter.all false
set_option maxRecDepth 100000
/-! Mp, part 1: pure data, a small heap, and what they stand for in the layer's heap. -/
namespace Mp
open PySem PySem.Spec L2
open PyProof.Rows hiding St

/-! ### data -/
inductive D where
  | non | bl (b : Bool) | int (i : Int) | str (x : Str) | ty (n : String) | glob (f : Str) | ref (n : Nat)
  | tup (ds : List D) | lst (ds : List D) | dct (kvs : List (D × D)) | fzl (ds : List D)
instance : Inhabited D := ⟨.non⟩

mutual
def D.beq : D → D → Bool
  | .non, .non => true
  | .bl a, .bl b => a == b
  | .int a, .int b => decide (a = b)
  | .str a, .str b => decide (a = b)
  | .ty a, .ty b => decide (a = b)
  | .glob a, .glob b => decide (a = b)
  | .ref a, .ref b => decide (a = b)
  | .tup a, .tup b => D.beqs a b
  | .lst a, .lst b => D.beqs a b
  | .dct a, .dct b => D.beqd a b
  | .fzl a, .fzl b => D.beqs a b
  | _, _ => false
def D.beqs : List D → List D → Bool
  | [], [] => true
  | a :: as, b :: bs => D.beq a b && D.beqs as bs
  | _, _ => false
def D.beqd : List (D × D) → List (D × D) → Bool
  | [], [] => true
  | (k, v) :: as, (k', v') :: bs => D.beq k k' && (D.beq v v' && D.beqd as bs)
  | _, _ => false
end
mutual
theorem D.beq_self : ∀ a : D, D.beq a a = true
  | .non => by simp [D.beq]
  | .bl _ => by simp [D.beq]
  | .int _ => by simp [D.beq]
  | .str _ => by simp [D.beq]
  | .ty _ => by simp [D.beq]
  | .glob _ => by simp [D.beq]
  | .ref _ => by simp [D.beq]
  | .tup ds => by rw [D.beq]; exact D.beqs_self ds
  | .lst ds => by rw [D.beq]; exact D.beqs_self ds
  | .dct ds => by rw [D.beq]; exact D.beqd_self ds
  | .fzl ds => by rw [D.beq]; exact D.beqs_self ds
theorem D.beqs_self : ∀ a : List D, D.beqs a a = true
  | [] => by simp [D.beqs]
  | a :: as => by rw [D.beqs, D.beq_self a, D.beqs_self as]; rfl
theorem D.beqd_self : ∀ a : List (D × D), D.beqd a a = true
  | [] => by simp [D.beqd]
  | (k, v) :: as => by rw [D.beqd, D.beq_self k, D.beq_self v, D.beqd_self as]; rfl
end
mutual
theorem D.eq_of_beq : ∀ a b : D, D.beq a b = true → a = b := fun a b h => by
  cases a <;> cases b <;> simp only [D.beq, decide_eq_true_eq, beq_iff_eq, Bool.false_eq_true] at h <;> first
    | rfl
    | (subst h; rfl)
    | (rw [D.eq_of_beqs _ _ h])
    | (rw [D.eq_of_beqd _ _ h])
theorem D.eq_of_beqs : ∀ a b : List D, D.beqs a b = true → a = b
  | [], [], _ => rfl
  | a :: as, b :: bs, h => by
    rw [D.beqs, Bool.and_eq_true] at h
    rw [D.eq_of_beq a b h.1, D.eq_of_beqs as bs h.2]
  | [], _ :: _, h => by simp [D.beqs] at h
  | _ :: _, [], h => by simp [D.beqs] at h
theorem D.eq_of_beqd : ∀ a b : List (D × D), D.beqd a b = true → a = b
  | [], [], _ => rfl
  | (k, v) :: as, (k', v') :: bs, h => by
    rw [D.beqd, Bool.and_eq_true, Bool.and_eq_true] at h
    rw [D.eq_of_beq k k' h.1, D.eq_of_beq v v' h.2.1, D.eq_of_beqd as bs h.2.2]
  | [], _ :: _, h => by simp [D.beqd] at h
  | _ :: _, [], h => by simp [D.beqd] at h
end
instance : DecidableEq D := fun a b => if h : D.beq a b = true then Decidable.isTrue (D.eq_of_beq a b h) else Decidable.isFalse fun e => h (e ▸ D.beq_self a)

/-! ### data as the library's data; keys -/
mutual
def D.pd : D → PyData
  | .non => .none
  | .bl b => .bool b
  | .int i => .int i
  | .str x => .str x
  | .tup ds => .tuple (D.pds ds)
  | .lst ds => .list (D.pds ds)
  | _ => .none
def D.pds : List D → List PyData
  | [] => []
  | d :: r => D.pd d :: D.pds r
end
mutual
/-- plain data, of a depth below n -/
def D.okd : Nat → D → Bool
  | _, .non => true
  | _, .bl _ => true
  | _, .int _ => true
  | _, .str x => PyData.strOk x
  | 0, _ => false
  | n + 1, .tup ds => D.okds n ds
  | n + 1, .lst ds => D.okds n ds
  | _, _ => false
def D.okds : Nat → List D → Bool
  | _, [] => true
  | n, d :: r => D.okd n d && D.okds n r
end
mutual
def D.key : D → Option NestedKey
  | .non => some .none
  | .int i => some (.num i)
  | .str x => some (.text x)
  | .tup ds => (D.keys ds).map .tup
  | _ => none
def D.keys : List D → Option (List NestedKey)
  | [] => some []
  | d :: r => match D.key d with
    | some k => (D.keys r).map (k :: ·)
    | none => none
end
def D.isTup : D → Bool
  | .tup _ => true
  | _ => false
def fkey : D → Option Key
  | .int i => some (.inl i)
  | .str x => some (.inr x)
  | _ => none
def isFlat (d : D) : Bool := (fkey d).isSome && D.okd 8 d
def isTkey (k : D) : Bool := k.isTup && D.okd 8 k && (D.key k).isSome
def allFlat (kvs : List (D × D)) : Bool := kvs.all fun e => isFlat e.1
def allTkey (kvs : List (D × D)) : Bool := kvs.all fun e => isTkey e.1
/-- a dict's keys are unlike, and of one kind -/
structure KNd (kvs : List (D × D)) : Prop where
  nd : (kvs.map (·.1)).Nodup
  hom : allFlat kvs = true ∨ allTkey kvs = true

/-! ### the small heap -/
inductive EO where
  | lst (ds : List D) | fz (ds : List D) | dct (kvs : List (D × D)) | ins (c : Str) (fs : List (Str × D))
abbrev EH := List EO
structure Xc where
  c : Str
  fs : List (Str × D)
inductive R (α : Type) where
  | ok (a : α) (h : EH) | exc (x : Xc) (h : EH) | no
def R.bind {α β : Type} (r : R α) (k : α → EH → R β) : R β := match r with
  | .ok a h => k a h
  | .exc x h => .exc x h
  | .no => .no
/-- a slot: nothing known, a value that is shared, a container that this frame alone holds -/
inductive Sl where
  | em | pu (d : D) | ow (d : D)
abbrev Tu := List Sl

/-! ### what data stand for -/
/-- which addresses the small heap's objects have; which addresses are never written any more -/
structure Wd where
  μ : List Addr
  P : Addr → Prop
/-- a tuple that the top has written -/
def WrT (K : PySem.W.Frag) (a : Addr) (xs : List V) : Prop :=
  ∃ (o : Obj) (its : Array Value) (n : Nat), K.lookup a = some o ∧ o.cls = .type "tuple" ∧ o.data = .seq its n ∧ its.size ≤ sizeLine ∧ Vals xs its.toList
/-- a tuple without attributes of its own -/
def PTu (K : PySem.W.Frag) (W : Wd) (H : Hp) (a : Addr) (xs : List V) : Prop := (W.P a ∧ ∃ o, H a = some (.frz o (.tup xs)) ∧ o.dict = none) ∨ (WrT K a xs ∧ ∀ o, K.lookup a = some o → o.dict = none)
/-- a list that the top has written -/
def WrL (K : PySem.W.Frag) (a : Addr) (xs : List V) : Prop :=
  ∃ (o : Obj) (its : Array Value) (n : Nat), K.lookup a = some o ∧ o.cls = .type "list" ∧ o.dict = none ∧ o.data = .seq its n ∧ its.size ≤ sizeLine ∧ Vals xs its.toList
abbrev Ent := DictEntry
/-- a plain dict at a, its entries and its epoch as they stand -/
def dO (a : Addr) (es : List Ent) (ep : Nat) : HO := .ext fun h => (a == sysModules) = false ∧ es.length ≤ sizeLine ∧ ∃ o, h.get? a = some o ∧ o.ExactDict ∧ o.data = .dict es.toArray ep

section
variable (w : World) (K : PySem.W.Frag) (mg : Str → Option Value) (W : Wd) (H : Hp)
mutual
inductive RV : D → V → Prop
  | non : RV .non .non
  | bl (b) : RV (.bl b) (.bl b)
  | int (i) : RV (.int i) (.int i)
  | str (x) : RV (.str x) (.str x)
  | ty (n) : RV (.ty n) (.ty n)
  | glob {f a} : mg f = some (.ref a) → RV (.glob f) (.ref a)
  | ref {n a} : W.μ[n]? = some a → RV (.ref n) (.ref a)
  | tup {ds a vs} : PTu K W H a vs → RVs ds vs → RV (.tup ds) (.ref a)
  | lst {ds a vs} : W.P a → H a = some (.lst vs) → RVs ds vs → RV (.lst ds) (.ref a)
  | dct {kvs a es ep} : W.P a → H a = some (dO a es ep) → KNd kvs → RVd kvs es → RV (.dct kvs) (.ref a)
  | fzl {ds a vs} : ((W.P a ∧ Rd H a (.lst vs)) ∨ WrL K a vs) → RVs ds vs → RV (.fzl ds) (.ref a)
inductive RVs : List D → List V → Prop
  | nil : RVs [] []
  | cons {d v ds vs} : RV d v → RVs ds vs → RVs (d :: ds) (v :: vs)
inductive RVd : List (D × D) → List Ent → Prop
  | nil : RVd [] []
  | cons {k d n kv v r e es} : D.okd 8 k = true → D.key k = some n → e.hash = n.hash w → RV k kv → RelV kv e.key → RV d v → RelV v e.val → RVd r es → RVd ((k, d) :: r) (e :: es)
end
/-- a container whose place need not be settled -/
inductive Own : D → Addr → Prop
  | lst {ds a vs} : H a = some (.lst vs) → RVs w K mg W H ds vs → Own (.lst ds) a
  | dct {kvs a es ep} : H a = some (dO a es ep) → KNd kvs → RVd w K mg W H kvs es → Own (.dct kvs) a
/-- for reading: the container at the top may be one's own -/
def RW (d : D) (v : V) : Prop := RV w K mg W H d v ∨ ∃ a, v = .ref a ∧ a ∉ W.μ ∧ Own w K mg W H d a
/-- the attributes of an instance -/
inductive RVf : List (Str × D) → List (Str × V) → Prop
  | nil : RVf [] []
  | cons {f d v r s} : RV w K mg W H d v → RVf r s → RVf ((f, d) :: r) ((f, v) :: s)
inductive OO : EO → Addr → Prop
  | lst {ds a vs} : H a = some (.lst vs) → RVs w K mg W H ds vs → OO (.lst ds) a
  | fz {ds a vs} : Rd H a (.lst vs) → RVs w K mg W H ds vs → OO (.fz ds) a
  | dct {kvs a es ep} : H a = some (dO a es ep) → KNd kvs → RVd w K mg W H kvs es → OO (.dct kvs) a
  | ins {c fs a C dx gs} : mg c = some (.ref C) → H a = some (.ins C dx gs) → RVf w K mg W H fs gs → OO (.ins c fs) a
structure HR (h : EH) : Prop where
  len : W.μ.length = h.length
  at_ : ∀ (n : Nat) (o : EO) (a : Addr), h[n]? = some o → W.μ[n]? = some a → OO w K mg W H o a
end
structure WOk (W : Wd) (H : Hp) : Prop where
  p : ∀ a, W.P a → H a ≠ none
  m : ∀ a ∈ W.μ, H a ≠ none ∧ ¬ W.P a
  nd : W.μ.Nodup
/-- what is settled goes on to stand -/
structure Gr (W : Wd) (H : Hp) (W' : Wd) (H' : Hp) : Prop where
  mu : ∃ t, W'.μ = W.μ ++ t
  pp : ∀ a, W.P a → W'.P a
  keep : ∀ a o, H a = some o → W.P a → H' a = some o
/-- all but the small heap's objects stands; what is settled or laid newly was not there -/
structure Ext (W : Wd) (H : Hp) (W' : Wd) (H' : Hp) : Prop where
  mu : ∃ t, W'.μ = W.μ ++ t
  pp : ∀ a, W.P a → W'.P a
  keep : ∀ a o, H a = some o → a ∉ W.μ → H' a = some o
  newP : ∀ a, H a ≠ none → W'.P a → W.P a
  newM : ∀ a, H a ≠ none → a ∈ W'.μ → a ∈ W.μ
theorem Ext.gr {W W' : Wd} {H H' : Hp} (e : Ext W H W' H') (ok : WOk W H) : Gr W H W' H' := ⟨e.mu, e.pp, fun a o h p => e.keep a o h fun z => (ok.m a z).2 p⟩
theorem Ext.refl (W : Wd) (H : Hp) : Ext W H W H := ⟨⟨[], by simp⟩, fun _ h => h, fun _ _ h _ => h, fun _ _ h => h, fun _ _ h => h⟩
theorem Ext.there {W W' : Wd} {H H' : Hp} (e : Ext W H W' H') (ok : WOk W' H') {a : Addr} (h : H a ≠ none) : H' a ≠ none := by
  by_cases hm : a ∈ W.μ
  · obtain ⟨t, ht⟩ := e.mu
    exact (ok.m a (by rw [ht]; exact List.mem_append_left _ hm)).1
  · cases q : H a with
    | none => exact absurd q h
    | some o => rw [e.keep a o q hm]; exact fun z => nomatch z
theorem Ext.trans {W W1 W2 : Wd} {H H1 H2 : Hp} (e : Ext W H W1 H1) (ok : WOk W1 H1) (f : Ext W1 H1 W2 H2) : Ext W H W2 H2 where
  mu := by
    obtain ⟨t, ht⟩ := e.mu
    obtain ⟨u, hu⟩ := f.mu
    exact ⟨t ++ u, by rw [hu, ht, List.append_assoc]⟩
  pp := fun a h => f.pp a (e.pp a h)
  keep := fun a o h hm => f.keep a o (e.keep a o h hm) fun z => hm (e.newM a (by rw [h]; exact fun q => nomatch q) z)
  newP := fun a h z => e.newP a h (f.newP a (e.there ok h) z)
  newM := fun a h z => e.newM a h (f.newM a (e.there ok h) z)

section
variable {w : World} {K : PySem.W.Frag} {mg : Str → Option Value} {W W' : Wd} {H H' : Hp}
theorem Rd.ext {a : Addr} {u : HO} (e : Gr W H W' H') (h : Rd H a u) (hm : W.P a) : Rd H' a u := by
  rcases h with h | ⟨o, h⟩
  · exact .inl (e.keep _ _ h hm)
  · exact .inr ⟨o, e.keep _ _ h hm⟩
theorem PTu.ext {a : Addr} {xs : List V} (e : Gr W H W' H') (h : PTu K W H a xs) : PTu K W' H' a xs := by
  rcases h with ⟨p, h⟩ | h
  · obtain ⟨o, h, hd⟩ := h
    exact .inl ⟨e.pp _ p, o, e.keep _ _ h p, hd⟩
  · exact .inr h
mutual
theorem RV.ext (e : Gr W H W' H') : ∀ {d : D} {v : V}, RV w K mg W H d v → RV w K mg W' H' d v
  | _, _, .non => .non
  | _, _, .bl b => .bl b
  | _, _, .int i => .int i
  | _, _, .str x => .str x
  | _, _, .ty n => .ty n
  | _, _, .glob h => .glob h
  | _, _, .ref h => .ref (by
      obtain ⟨t, ht⟩ := e.mu
      rw [ht, List.getElem?_append_left (List.getElem?_eq_some_iff.mp h).1]
      exact h)
  | _, _, .tup p r => .tup (p.ext e) (r.ext e)
  | _, _, .lst p q r => .lst (e.pp _ p) (e.keep _ _ q p) (r.ext e)
  | _, _, .dct p q n r => .dct (e.pp _ p) (e.keep _ _ q p) n (r.ext e)
  | _, _, .fzl p r => .fzl (p.imp (fun ⟨h1, h2⟩ => ⟨e.pp _ h1, Rd.ext e h2 h1⟩) id) (r.ext e)
theorem RVs.ext (e : Gr W H W' H') : ∀ {ds : List D} {vs : List V}, RVs w K mg W H ds vs → RVs w K mg W' H' ds vs
  | _, _, .nil => .nil
  | _, _, .cons h t => .cons (h.ext e) (t.ext e)
theorem RVd.ext (e : Gr W H W' H') : ∀ {ds : List (D × D)} {es : List Ent}, RVd w K mg W H ds es → RVd w K mg W' H' ds es
  | _, _, .nil => .nil
  | _, _, .cons z k hh h x i y t => .cons z k hh (h.ext e) x (i.ext e) y (t.ext e)
end
theorem Own.ext (e : Ext W H W' H') (ok : WOk W H) {d : D} {a : Addr} (hm : a ∉ W.μ) (h : Own w K mg W H d a) : Own w K mg W' H' d a := by
  cases h with
  | lst q r => exact .lst (e.keep _ _ q hm) (r.ext (e.gr ok))
  | dct q n r => exact .dct (e.keep _ _ q hm) n (r.ext (e.gr ok))
theorem Own.there {d : D} {a : Addr} (h : Own w K mg W H d a) : H a ≠ none := by
  cases h with
  | lst q _ => rw [q]; exact fun z => nomatch z
  | dct q _ _ => rw [q]; exact fun z => nomatch z
theorem RW.ext (e : Ext W H W' H') (ok : WOk W H) {d : D} {v : V} (h : RW w K mg W H d v) : RW w K mg W' H' d v := by
  rcases h with h | ⟨a, q, hm, h⟩
  · exact .inl (h.ext (e.gr ok))
  · exact .inr ⟨a, q, fun z => hm (e.newM a h.there z), h.ext e ok hm⟩
theorem RVf.ext (e : Gr W H W' H') : ∀ {fs : List (Str × D)} {gs : List (Str × V)}, RVf w K mg W H fs gs → RVf w K mg W' H' fs gs
  | _, _, .nil => .nil
  | _, _, .cons h t => .cons (h.ext e) (t.ext e)
theorem RVs.length : ∀ {ds : List D} {vs : List V}, RVs w K mg W H ds vs → ds.length = vs.length
  | _, _, .nil => rfl
  | _, _, .cons _ t => by rw [List.length_cons, List.length_cons, t.length]
theorem RVs.get : ∀ {ds : List D} {vs : List V} {i : Nat} {d : D}, RVs w K mg W H ds vs → ds[i]? = some d → ∃ v, vs[i]? = some v ∧ RV w K mg W H d v
  | _, _, _, _, .nil, h => by simp at h
  | _, _, 0, _, .cons h _, e => by
    simp only [List.getElem?_cons_zero, Option.some.injEq] at e
    subst e
    exact ⟨_, rfl, h⟩
  | _, _, i + 1, d, .cons _ t, e => by
    rw [List.getElem?_cons_succ] at e
    obtain ⟨v, h1, h2⟩ := t.get e
    exact ⟨v, by rw [List.getElem?_cons_succ]; exact h1, h2⟩
theorem RVs.append : ∀ {ds es : List D} {vs us : List V}, RVs w K mg W H ds vs → RVs w K mg W H es us → RVs w K mg W H (ds ++ es) (vs ++ us)
  | _, _, _, _, .nil, h => h
  | _, _, _, _, .cons h t, g => .cons h (t.append g)
end
end Mp

set_option Elab.async false
set_option linter.all false
set_option maxRecDepth 100000
/-! Mp, part 2: the judgements: what a functional run tells of the model's run. -/
namespace Mp
open PySem PySem.Spec L2
open PyProof.Rows hiding St

theorem PE.imp {X : Cx} {e : Expr} {t t' : TE} (h : PE X e t) (hi : ∀ σ H Q, t' σ H Q → t σ H Q) : PE X e t' := ⟨fun pins s σ H Q I q => h.run pins s σ H Q I (hi _ _ _ q)⟩
theorem PT.imp {X : Cx} {e : Expr} {t t' : TT} (h : PT X e t) (hi : ∀ σ H Q, t' σ H Q → t σ H Q) : PT X e t' := ⟨fun pins s σ H Q I q => h.run pins s σ H Q I (hi _ _ _ q)⟩
theorem PW.imp {X : Cx} {e : Expr} {t t' : TT} (h : PW X e t) (hi : ∀ σ H Q, t' σ H Q → t σ H Q) : PW X e t' := ⟨fun wh pins s σ H Q I q => h.run wh pins s σ H Q I (hi _ _ _ q)⟩
theorem PA.imp {X : Cx} {es : List Expr} {t t' : TA} (h : PA X es t) (hi : ∀ σ H Q, t' σ H Q → t σ H Q) : PA X es t' := ⟨fun pos pins s σ H Q I q => h.run pos pins s σ H Q I (hi _ _ _ q)⟩
theorem PS.imp {X : Cx} {st : Stmt} {t t' : TS} (h : PS X st t) (hi : ∀ D σ H, t' D σ H → t D σ H) : PS X st t' := ⟨fun pins s σ H D I q => h.run pins s σ H D I (hi _ _ _ q)⟩
theorem PSs.imp {X : Cx} {st : List Stmt} {t t' : TS} (h : PSs X st t) (hi : ∀ D σ H, t' D σ H → t D σ H) : PSs X st t' := ⟨fun pins s σ H D I q => h.run pins s σ H D I (hi _ _ _ q)⟩

/-- an exception of an own class, in the air -/
def ExcR (w : World) (K : PySem.W.Frag) (mg : Str → Option Value) (W : Wd) (H : Hp) (x : Xc) (cls : Value) (dd : Option Addr) : Prop :=
  ∃ C, mg x.c = some (.ref C) ∧ cls = .ref C ∧ ((x.fs = [] ∧ dd = none) ∨ ∃ d gs, dd = some d ∧ H d = some (.xd gs) ∧ d ∉ W.μ ∧ RVf w K mg W H x.fs gs)

section
variable (w : World) (K : PySem.W.Frag) (mg : Str → Option Value)
/-- how a result stands for what comes -/
abbrev Rl (α β : Type) := Wd → Hp → Wd → Hp → α → β → Prop
def Ko {α β : Type} (rel : Rl α β) (W : Wd) (H : Hp) (Wx : XK) (r : R α) (Q : β → Hp → Prop) : Prop := match r with
  | .ok d h' => ∀ v W' H', Ext W H W' H' → WOk W' H' → HR w K mg W' H' h' → rel W H W' H' d v → Q v H'
  | .exc x h' => ∀ cls dd W' H', Ext W H W' H' → WOk W' H' → HR w K mg W' H' h' → ExcR w K mg W' H' x cls dd → Wx cls dd H'
  | .no => False
def rS : Rl D V := fun _ _ W' H' d v => RV w K mg W' H' d v
def rW : Rl D V := fun _ _ W' H' d v => RW w K mg W' H' d v
/-- a value that is shared, or a new container that nobody else holds -/
def rF : Rl Sl V := fun _ H W' H' d v => match d with
  | .em => False
  | .pu d => RV w K mg W' H' d v
  | .ow d => ∃ a, v = .ref a ∧ H a = none ∧ a ∉ W'.μ ∧ ¬ W'.P a ∧ Own w K mg W' H' d a
def rB : Rl Bool Bool := fun _ _ _ _ d v => d = v
def rA : Rl (List D) (List V) := fun _ _ W' H' ds vs => RVs w K mg W' H' ds vs
/-- each for reading -/
inductive RWs (W : Wd) (H : Hp) : List D → List V → Prop
  | nil : RWs W H [] []
  | cons {d v ds vs} : RW w K mg W H d v → RWs W H ds vs → RWs W H (d :: ds) (v :: vs)
def rAW : Rl (List D) (List V) := fun _ _ W' H' ds vs => RWs w K mg W' H' ds vs

/-- the slots at a place of a def's body: W0, H0 at its entry -/
structure SR (W0 : Wd) (H0 : Hp) (W : Wd) (H : Hp) (τ : Tu) (σ : St) (h : EH) : Prop where
  ok0 : WOk W0 H0
  ok : WOk W H
  hr : HR w K mg W H h
  ext : Ext W0 H0 W H
  len : τ.length = σ.length
  pu : ∀ (i : Nat) (d : D), τ[i]? = some (.pu d) → ∃ v, σ[i]? = some (some v) ∧ RV w K mg W H d v
  ow : ∀ (i : Nat) (d : D), τ[i]? = some (.ow d) → ∃ a, σ[i]? = some (some (.ref a)) ∧ H0 a = none ∧ a ∉ W.μ ∧ ¬ W.P a ∧ Own w K mg W H d a
  sep : ∀ (i j : Nat) (d e : D) (a : Addr), i ≠ j → τ[i]? = some (.ow d) → τ[j]? = some (.ow e) → σ[i]? = some (some (.ref a)) → σ[j]? ≠ some (some (.ref a))
end

abbrev EM := Tu → EH → R D
abbrev FM := Tu → EH → R Sl
def Sl.val (s : Sl) (h : EH) : R D := match s with
  | .em => .no
  | .pu d => .ok d h
  | .ow d => .ok d h
/-- what is new is settled -/
def fm (m : FM) : EM := fun τ h => (m τ h).bind Sl.val
/-- a value as it is -/
def pm (m : EM) : FM := fun τ h => (m τ h).bind fun d h1 => .ok (.pu d) h1
abbrev BM := Tu → EH → R Bool
abbrev AM := Tu → EH → R (List D)
def Tg {α β : Type} (X : Cx) (rel : Rl α β) (m : Tu → EH → R α) (Wx : WX) : St → Hp → (β → Hp → Prop) → Prop := fun σ H Q =>
  ∃ W0 H0 W τ h, SR X.w X.K X.mg W0 H0 W H τ σ h ∧ Ko X.w X.K X.mg rel W H (fun c d H => Wx c d σ H) (m τ h) Q
structure SimE (X : Cx) (e : Expr) (m : EM) : Prop where
  run : ∀ Wx, Takes X Wx → PE X e (Tg X (rS X.w X.K X.mg) m Wx)
structure SimW (X : Cx) (e : Expr) (m : EM) : Prop where
  run : ∀ Wx, Takes X Wx → PE X e (Tg X (rW X.w X.K X.mg) m Wx)
structure SimF (X : Cx) (e : Expr) (m : FM) : Prop where
  run : ∀ Wx, Takes X Wx → PE X e (Tg X (rF X.w X.K X.mg) m Wx)
structure SimT (X : Cx) (e : Expr) (m : BM) : Prop where
  run : ∀ Wx, Takes X Wx → PT X e (Tg X rB m Wx)
structure SimA (X : Cx) (es : List Expr) (m : AM) : Prop where
  run : ∀ Wx, Takes X Wx → PA X es (Tg X (rA X.w X.K X.mg) m Wx)
structure SimAW (X : Cx) (es : List Expr) (m : AM) : Prop where
  run : ∀ Wx, Takes X Wx → PA X es (Tg X (rAW X.w X.K X.mg) m Wx)

section
variable {w : World} {K : PySem.W.Frag} {mg : Str → Option Value} {W0 W W1 : Wd} {H0 H H1 : Hp} {τ : Tu} {σ : St} {h h1 : EH}
theorem SR.step (s : SR w K mg W0 H0 W H τ σ h) (e : Ext W H W1 H1) (ok : WOk W1 H1) (hr : HR w K mg W1 H1 h1) : SR w K mg W0 H0 W1 H1 τ σ h1 where
  ok0 := s.ok0
  ok := ok
  hr := hr
  ext := s.ext.trans s.ok e
  len := s.len
  pu := fun i d q => by
    obtain ⟨v, h1, h2⟩ := s.pu i d q
    exact ⟨v, h1, h2.ext (e.gr s.ok)⟩
  ow := fun i d q => by
    obtain ⟨a, h1, h2, h3, h4, h5⟩ := s.ow i d q
    exact ⟨a, h1, h2, fun z => h3 (e.newM a h5.there z), fun z => h4 (e.newP a h5.there z), h5.ext e s.ok h3⟩
  sep := s.sep
/-- a relation that may be told of an earlier state -/
def Mono {γ δ : Type} (rel : Rl γ δ) : Prop := ∀ (W : Wd) (H : Hp) (W1 : Wd) (H1 : Hp) (W2 : Wd) (H2 : Hp) (d : γ) (v : δ), Ext W H W1 H1 → WOk W1 H1 → rel W1 H1 W2 H2 d v → rel W H W2 H2 d v
/-- what follows an expression -/
theorem Ko.step {α β γ δ : Type} {rel : Rl γ δ} {rel1 : Rl α β} {Wx : XK} {r : R α} {k : α → EH → R γ} {Q : δ → Hp → Prop} {Q1 : β → Hp → Prop}
    (mono : Mono rel)
    (g : Ko w K mg rel W H Wx (r.bind k) Q)
    (go : ∀ d h1 v W1 H1, r = .ok d h1 → Ext W H W1 H1 → WOk W1 H1 → HR w K mg W1 H1 h1 → rel1 W H W1 H1 d v → Ko w K mg rel W1 H1 Wx (k d h1) Q → Q1 v H1) : Ko w K mg rel1 W H Wx r Q1 := by
  cases r with
  | no => exact g
  | exc x h' => exact g
  | ok d h1 =>
    intro v W1 H1 e ok hr rl
    refine go d h1 v W1 H1 rfl e ok hr rl ?_
    show Ko w K mg rel W1 H1 Wx (k d h1) Q
    have g' : Ko w K mg rel W H Wx (k d h1) Q := g
    cases q : k d h1 with
    | no => rw [q] at g'; exact g'
    | exc x h' =>
      rw [q] at g'
      exact fun cls dd W' H' e' ok' hr' xr => g' cls dd W' H' (e.trans ok e') ok' hr' xr
    | ok d' h' =>
      rw [q] at g'
      exact fun v' W' H' e' ok' hr' rl' => g' v' W' H' (e.trans ok e') ok' hr' (mono _ _ _ _ _ _ _ _ e ok rl')
theorem Ko.at {γ δ : Type} {rel : Rl γ δ} {Wx : XK} {r : R γ} {Q : δ → Hp → Prop} (mono : Mono rel) (e : Ext W H W1 H1) (ok : WOk W1 H1) (g : Ko w K mg rel W H Wx r Q) : Ko w K mg rel W1 H1 Wx r Q := by
  cases r with
  | no => exact g
  | exc x h' => exact fun cls dd W' H' e' ok' hr' xr => g cls dd W' H' (e.trans ok e') ok' hr' xr
  | ok d' h' => exact fun v' W' H' e' ok' hr' rl' => g v' W' H' (e.trans ok e') ok' hr' (mono _ _ _ _ _ _ _ _ e ok rl')
theorem monoS : Mono (rS w K mg) := fun _ _ _ _ _ _ _ _ _ _ q => q
theorem monoW : Mono (rW w K mg) := fun _ _ _ _ _ _ _ _ _ _ q => q
theorem monoA : Mono (rA w K mg) := fun _ _ _ _ _ _ _ _ _ _ q => q
theorem monoAW : Mono (rAW w K mg) := fun _ _ _ _ _ _ _ _ _ _ q => q
theorem monoB : Mono rB := fun _ _ _ _ _ _ _ _ _ _ q => q
theorem monoF : Mono (rF w K mg) := fun W H W1 H1 W2 H2 d v e ok q => by
  cases d with
  | em => exact q
  | pu d => exact q
  | ow d =>
    obtain ⟨a, h1, h2, r⟩ := q
    refine ⟨a, h1, ?_, r⟩
    cases z : H a with
    | none => rfl
    | some o => exact absurd h2 (e.there ok (by rw [z]; exact fun t => nomatch t))
theorem RV.rw {d : D} {v : V} (q : RV w K mg W H d v) : RW w K mg W H d v := .inl q
theorem RVs.rw : ∀ {ds : List D} {vs : List V}, RVs w K mg W H ds vs → RWs w K mg W H ds vs
  | _, _, .nil => .nil
  | _, _, .cons h t => .cons (.inl h) t.rw
theorem RWs.ext (e : Ext W H W1 H1) (ok : WOk W H) : ∀ {ds : List D} {vs : List V}, RWs w K mg W H ds vs → RWs w K mg W1 H1 ds vs
  | _, _, .nil => .nil
  | _, _, .cons h t => .cons (h.ext e ok) (t.ext e ok)
/-- settle a new container: it is written no more -/
def Wd.add (W : Wd) (a : Addr) : Wd := ⟨W.μ, fun b => W.P b ∨ b = a⟩
theorem Gr.add (W : Wd) (H : Hp) (a : Addr) : Gr W H (W.add a) H := ⟨⟨[], by simp [Wd.add]⟩, fun _ h => .inl h, fun _ _ h _ => h⟩
theorem WOk.add {a : Addr} (ok : WOk W H) (hm : a ∉ W.μ) (ha : H a ≠ none) : WOk (W.add a) H where
  p := fun b hb => by
    rcases hb with hb | rfl
    · exact ok.p b hb
    · exact ha
  m := fun b hb => ⟨(ok.m b hb).1, fun z => by
    rcases z with z | rfl
    · exact (ok.m b hb).2 z
    · exact hm hb⟩
  nd := ok.nd
theorem OO.gr {o : EO} {a : Addr} (ok : WOk W H) (g : Gr W H W1 H) (x : OO w K mg W H o a) : OO w K mg W1 H o a := by
  cases x with
  | lst q r => exact .lst q (r.ext g)
  | fz q r => exact .fz q (r.ext g)
  | dct q n r => exact .dct q n (r.ext g)
  | ins q r s => exact .ins q r (s.ext g)
theorem HR.add {a : Addr} (ok : WOk W H) (hr : HR w K mg W H h) : HR w K mg (W.add a) H h := ⟨hr.len, fun n o b h1 h2 => (hr.at_ n o b h1 h2).gr ok (Gr.add W H a)⟩
theorem Own.settled {a : Addr} {d : D} (ok : WOk W H) (o : Own w K mg W H d a) : RV w K mg (W.add a) H d (.ref a) := by
  cases o with
  | lst q r => exact .lst (.inr rfl) q (r.ext (Gr.add W H a))
  | dct q n r => exact .dct (.inr rfl) q n (r.ext (Gr.add W H a))
/-- what is fresh may be taken for settled, or for reading -/
theorem Ko.ofF {Wx : XK} {r : R Sl} {Q : VK} (h : Ko w K mg (rS w K mg) W H Wx (r.bind Sl.val) Q) : Ko w K mg (rF w K mg) W H Wx r Q := by
  cases r with
  | no => exact h
  | exc x h' => exact h
  | ok d h' =>
    intro v W' H' e ok hr q
    cases d with
    | em => exact q.elim
    | pu d => exact h v W' H' e ok hr q
    | ow d =>
      obtain ⟨a, rfl, hn, hm, hp, o⟩ := q
      refine h (.ref a) (W'.add a) H' ⟨e.mu, fun b z => .inl (e.pp b z), e.keep, fun b z y => ?_, e.newM⟩ (ok.add hm o.there) (hr.add ok) (o.settled ok)
      rcases y with y | rfl
      · exact e.newP b z y
      · exact absurd hn z
theorem Ko.toF {Wx : XK} {r : R D} {Q : VK} (h : Ko w K mg (rF w K mg) W H Wx (r.bind fun d h1 => .ok (.pu d) h1) Q) : Ko w K mg (rS w K mg) W H Wx r Q := by
  cases r with
  | no => exact h
  | exc x h' => exact h
  | ok d h' => exact h
theorem Ko.weak {Wx : XK} {r : R D} {Q : VK} (h : Ko w K mg (rW w K mg) W H Wx r Q) : Ko w K mg (rS w K mg) W H Wx r Q := by
  cases r with
  | no => exact h
  | exc x h' => exact h
  | ok d h' => exact fun v W' H' e ok hr q => h v W' H' e ok hr (.inl q)
theorem Ko.weakA {Wx : XK} {r : R (List D)} {Q : List V → Hp → Prop} (h : Ko w K mg (rAW w K mg) W H Wx r Q) : Ko w K mg (rA w K mg) W H Wx r Q := by
  cases r with
  | no => exact h
  | exc x h' => exact h
  | ok d h' => exact fun v W' H' e ok hr q => h v W' H' e ok hr q.rw
theorem Ko.weakF {Wx : XK} {r : R Sl} {Q : VK} (h : Ko w K mg (rW w K mg) W H Wx (r.bind Sl.val) Q) : Ko w K mg (rF w K mg) W H Wx r Q := by
  cases r with
  | no => exact h
  | exc x h' => exact h
  | ok d h' =>
    intro v W' H' e ok hr q
    cases d with
    | em => exact q.elim
    | pu d => exact h v W' H' e ok hr (.inl q)
    | ow d =>
      obtain ⟨a, h1, _, h2, _, h3⟩ := q
      exact h v W' H' e ok hr (.inr ⟨a, h1, h2, h3⟩)
end
section
variable {X : Cx} {e : Expr} {m : EM}
theorem SimF.s {m : FM} (h : SimF X e m) : SimE X e (fm m) := ⟨fun Wx tk => PE.imp (h.run Wx tk) fun σ H Q ⟨W0, H0, W, τ, hp, s, g⟩ => ⟨W0, H0, W, τ, hp, s, g.ofF⟩⟩
theorem SimE.f (h : SimE X e m) : SimF X e (pm m) := ⟨fun Wx tk => PE.imp (h.run Wx tk) fun σ H Q ⟨W0, H0, W, τ, hp, s, g⟩ => ⟨W0, H0, W, τ, hp, s, g.toF⟩⟩
theorem SimE.w (h : SimE X e m) : SimW X e m := ⟨fun Wx tk => PE.imp (h.run Wx tk) fun σ H Q ⟨W0, H0, W, τ, hp, s, g⟩ => ⟨W0, H0, W, τ, hp, s, g.weak⟩⟩
theorem SimF.w {m : FM} (h : SimF X e m) : SimW X e (fm m) := ⟨fun Wx tk => PE.imp (h.run Wx tk) fun σ H Q ⟨W0, H0, W, τ, hp, s, g⟩ => ⟨W0, H0, W, τ, hp, s, g.weakF⟩⟩
theorem SimA.w {es : List Expr} {m : AM} (h : SimA X es m) : SimAW X es m := ⟨fun Wx tk => PA.imp (h.run Wx tk) fun σ H Q ⟨W0, H0, W, τ, hp, s, g⟩ => ⟨W0, H0, W, τ, hp, s, g.weakA⟩⟩
end
end Mp

set_option Elab.async false
set_option linter.all false
set_option maxRecDepth 100000
/-! Mp: tuples that are laid, with what is known of their objects. -/
namespace Mp
open PySem PySem.Spec L2
open PyProof.Rows hiding St

/-- what a rule that lays a tuple leaves -/
abbrev NewT (Q : VK) (H : Hp) (xs : List V) : Prop := ∀ (p : Addr) (o : Obj), H p = none → o.dict = none → Q (.ref p) (upd H p (.frz o (.tup xs)))
section
variable {X : Cx} {pins : List (Addr × Obj)} {s : Shared} {σ : L2.St} {H : Hp}
theorem laidT {h' : Heap} {tk : Nat} {a : Addr} {its : List Value} {xs : List V} (I : Inv X pins σ H s) (kp : ∀ b o, s.heap.get? b = some o → h'.get? b = some o) (ha : s.heap.objs.size ≤ a) (r : Vals xs its) (hz : xs.length ≤ sizeLine)
    (hg : h'.get? a = some { cls := .type "tuple", data := .seq its.toArray }) : Inv X pins σ (upd H a (.frz { cls := .type "tuple", data := .seq its.toArray } (.tup xs))) { s with heap := h', toks := tk } :=
  I.laid kp ha ⟨hg, hz, its, r, ⟨_, hg, rfl, 0, rfl⟩⟩
/-- .. at the heap's end -/
theorem pushT {its : List Value} {xs : List V} {Q : VK} (I : Inv X pins σ H s) (r : Vals xs its) (hz : xs.length ≤ sizeLine) (q : NewT Q H xs) :
    EP X pins σ Q (.ref s.heap.objs.size) { s with heap := s.heap.push { cls := .type "tuple", data := .seq its.toArray } } :=
  ⟨.ref _, _, laidT (tk := s.toks) I (fun b o e => Heap.get?_push_of_some _ e) (Nat.le_refl _) r hz (Heap.get?_push_size _ rfl), rfl, q _ _ (I.hok.fresh (Nat.le_refl _)) rfl⟩
def tTupP (t : TA) : TE := fun σ H Q => t σ H fun xs H1 => xs.length ≤ sizeLine ∧ NewT Q H1 xs
theorem pe_tupP {es : List Expr} {t : TA} {pos : Pos} {x1} (h : PA X es t) : PE X (.Tuple es x1 pos) (tTupP t) :=
  ⟨fun pins s σ H Q I hq => wpAny_Tuple_spliced (thn (h.run pos pins s σ H _ I hq) fun us s1 ⟨xs, H1, I1, r, z, q⟩ => ⟨by rw [← r.length]; exact z, pushT I1 r z q⟩)⟩
def rCatP (K : PySem.W.Frag) : R2 := fun x y H Q => ∃ a b xs ys, x = .ref a ∧ y = .ref b ∧ SqT K H a xs ∧ SqT K H b ys ∧ xs.length + ys.length ≤ sizeLine ∧
  (xs = [] → Q (.ref b) H) ∧ (xs ≠ [] → ys = [] → Q (.ref a) H) ∧ (xs ≠ [] → ys ≠ [] → NewT Q H (xs ++ ys))
theorem op_catP : OpR X (binaryOp .Add) (rCatP X.K) := by
  intro pins s σ H x y v u Q I rx ry ⟨a, b, xs, ys, hx, hy, ha, hb, hz, q0, q1, q2⟩
  subst hx; subst hy
  cases rx; cases ry
  obtain ⟨ia, ra, pa, _⟩ := I.tuple ha
  obtain ⟨ib, rb, pb, _⟩ := I.tuple hb
  by_cases hn : xs = []
  · subst hn
    cases ra
    exact cat_tup0 pa pb ⟨.ref b, H, I, rfl, q0 rfl⟩
  · exact HT.cat_tup pa pb (fun z => hn (ra.nil_iff.mp z)) (fun z => ⟨.ref a, H, I, rfl, q1 hn (rb.nil_iff.mp z)⟩)
      (fun z => pushT I (ra.append rb) (by rw [List.length_append]; exact hz) (q2 hn fun y => z (rb.nil_iff.mpr y))) (by rw [← ra.length, ← rb.length]; exact hz)
def rSlP (K : PySem.W.Frag) : V → Option Int → Option Int → Hp → VK → Prop := fun x lo hi H Q => ∃ a xs, x = .ref a ∧ SqT K H a xs ∧
  (HT.sIx xs.length 0 lo = 0 ∧ HT.sIx xs.length xs.length hi = xs.length → Q (.ref a) H) ∧ (¬ (HT.sIx xs.length 0 lo = 0 ∧ HT.sIx xs.length xs.length hi = xs.length) → NewT Q H (cutV xs lo hi))
theorem sl_tupP : SlR X (rSlP X.K) := by
  intro pins s σ H x v vl vu lo hi sl Q I rx hs pl pu ⟨a, xs, hx, ht, q1, q2⟩
  subst hx
  by_cases hw : HT.sIx xs.length 0 lo = 0 ∧ HT.sIx xs.length xs.length hi = xs.length
  · exact sl_tupA pins s σ H _ v vl vu lo hi sl Q I rx hs pl pu ⟨a, xs, rfl, ht, q1, fun n => absurd hw n⟩
  · cases rx
    obtain ⟨its, r, p, hz⟩ := I.tuple ht
    have hl : its.toArray.size = xs.length := by rw [List.size_toArray]; exact r.length.symm
    refine ⟨"tuple", _, PyProof.Rows.slot_tuple_getitem.lookup, p.typeIs, HT.getItem_tuple_cut p hs pl pu (by rw [hl]; exact hw) ?_ (by rw [hl]; exact hz)⟩
    rw [hl]
    exact pushT I ((r.drop _).take _) (Nat.le_trans (cutV_length xs lo hi) hz) (q2 hw)
theorem call_tupleP : CallR X (.type "tuple") (fun xs H Q => ∃ p ys, xs = [.ref p] ∧ ((SqL X.K H p ys ∧ NewT Q H ys) ∨ (SqT X.K H p ys ∧ Q (.ref p) H))) := by
  intro pins s σ H xs us Q I r ⟨p, ys, hx, h⟩
  subst hx
  rcases h with ⟨hq, q⟩ | ⟨hq, q⟩
  · obtain ⟨u, rfl, rx⟩ := vals1 r
    cases rx
    obtain ⟨its, r', pl, hz⟩ := I.list hq
    refine call_tuple_list pl.isList (fun h' kp => ?_) (by rw [List.size_toArray, ← r'.length]; exact hz)
    exact pushT (I.kept (t' := s.toks) kp) r' hz q
  · exact call_tuple_of pins s σ H _ us Q I r ⟨p, ys, rfl, .inr ⟨hq, q⟩⟩
/-! t * k -/
theorem tuple_mul1 (l : Addr) (items : Array Value) (n : Nat) (dd : Option Addr) (sl : Array (Option Value)) (u : Tok) :
    Meets (Builtin.«tuple.__mul__» ⟨[.ref l, .int 1 u], []⟩) (fun _ R s => s.heap.get? l = some { cls := .type "tuple", dict := dd, data := .seq items n, slots := sl } ∧ R (.ok (.ret (Value.ref l))) s) :=
  .of_wp fun prog w A R s h => by
    obtain ⟨hp, g, d, tk, os⟩ := s
    obtain ⟨hl, h⟩ := h
    have f1 := AutoSeq1.idx_int
    wp_walk using wpAny_loadPart' hl
    repeat (first
      | (refine wpAny_ite_true (decide_eq_true (by simp)) ?_; wp_walk using wpAny_loadPart' hl)
      | (refine wpAny_ite_false (decide_eq_false (by simp)) ?_; wp_walk using wpAny_loadPart' hl))
    exact ⟨_, rfl, h⟩
def rRepP (K : PySem.W.Frag) : R2 := fun x y H Q => ∃ l k xs, x = .ref l ∧ y = .int k ∧ SqT K H l xs ∧ xs ≠ [] ∧ xs.length ≤ 1000 ∧ ((k = 1 ∧ Q (.ref l) H) ∨ (2 ≤ k ∧ k ≤ 1000 ∧ NewT Q H (List.replicate k.toNat xs).flatten))
theorem op_repP : OpR X (binaryOp .Mult) (rRepP X.K) := by
  intro pins s σ H x y v u Q I rx ry ⟨l, k, xs, hx, hy, ht, hne, hz, h⟩
  subst hx; subst hy
  cases rx
  obtain ⟨t, rfl⟩ := ry
  obtain ⟨its, r, ⟨ob, ho, hc, n, hd⟩, _⟩ := I.tuple ht
  obtain ⟨oc, dd, dt, sl⟩ := ob
  simp only at hc hd
  subst hc hd
  have lx : its.length = xs.length := r.length.symm
  have fl : (List.replicate k.toNat its).flatten.length = k.toNat * its.length := PyProof.Rows.lm_len_rep_flat _ _
  have mul : ∀ {R : Value → Shared → Prop}, R = EP X pins σ Q → wpAny (model X.prog X.w) X.A (call (.builtin "tuple.__mul__") [.ref l, .int k t]) R X.xe s := by
    rintro R rfl
    rcases h with ⟨h1, q⟩ | ⟨h1, h2, q⟩
    · subst h1
      exact call_meets F.slot_tuple_mul ⟨_, ho, rfl⟩ F.entry_tuple_mul (F.args_tuple_mul_2 _ _) (tuple_mul1 l its.toArray n dd sl t) ⟨ho, ⟨.ref l, H, I, rfl, q⟩⟩
    · have ne : its.toArray.isEmpty = false := by
        cases its with
        | nil => exact absurd (List.eq_nil_of_length_eq_zero lx.symm) hne
        | cons _ _ => rfl
      have sz : its.toArray.size = xs.length := by rw [List.size_toArray, lx]
      have big : ((its.toArray.size : Nat) : Int) * k ≤ 1000000 := by
        rw [sz]
        have a1 : ((xs.length : Nat) : Int) * k ≤ 1000 * k := Int.mul_le_mul_of_nonneg_right (by omega) (by omega)
        omega
      have flat : (List.replicate k.toNat its).flatten.length ≤ sizeLine := by
        rw [fl, lx, sizeLine_eq]
        have a1 : k.toNat * xs.length ≤ 1000 * 1000 := Nat.mul_le_mul (by omega) hz
        omega
      have c0 : (decide (k < -(2 ^ 63)) || decide (k ≥ 2 ^ 63)) = false := by rw [decide_eq_false (by omega), decide_eq_false (by omega)]; rfl
      have c1 : (its.toArray.isEmpty || k == 1) = false := by rw [ne, Bool.false_or]; exact beq_eq_false_iff_ne.mpr (by omega)
      have c2 : (decide (k ≤ 0) || its.toArray.isEmpty) = false := by rw [ne, Bool.or_false]; exact decide_eq_false (by omega)
      have c4 : Builtin.Tuple.tupleTooMany (((its.toArray.size : Nat) : Int) * k) = false := by
        unfold Builtin.Tuple.tupleTooMany
        rw [sizeLine_eq]
        exact decide_eq_false (by omega)
      refine call_meets F.slot_tuple_mul ⟨_, ho, rfl⟩ F.entry_tuple_mul (F.args_tuple_mul_2 _ _) (tuple_mulW l its.toArray n dd sl k t c0 c1 c2 (by omega) c4 (by rw [size_rep, List.size_toArray]; exact flat)) ⟨ho, ?_⟩
      rw [size_rep]
      have z := pushT I (r.rep k.toNat) (by rw [PyProof.Rows.lm_len_rep_flat, ← lx, ← fl]; exact flat) q
      exact z
  refine wpAny_binaryOp_repeat_ref (T := "tuple") (U := "int") (by decide) ⟨_, ho, rfl⟩ (fun s' => typeIs_int s' k t) noFill_tuple_mul F.fills_int_mul F.slot_int_rmul repeat_tuple F.slot_int_index.lookup
    (call_meets F.slot_int_rmul (typeIs_int s k t) F.entry_int_rmul (F.args_int_rmul_2 _ _) (int_rmul_tuple k t l its.toArray n dd sl) ⟨ho, rfl, ⟨_, ho, rfl⟩, mul rfl⟩)
end
end Mp

set_option Elab.async false
set_option linter.all false
set_option maxRecDepth 100000
/-! Mp, part 3: names, constants, operators, displays. -/
namespace Mp
open PySem PySem.Spec L2
open PyProof.Rows hiding St

/-! ### inversion -/
section
variable {w : World} {K : PySem.W.Frag} {mg : Str → Option Value} {W : Wd} {H : Hp} {v : V}
theorem RW.pure {d : D} (h : RW w K mg W H d v) (hd : ∀ a, ¬ Own w K mg W H d a) : RV w K mg W H d v := by
  rcases h with h | ⟨a, _, _, o⟩
  · exact h
  · exact (hd a o).elim
theorem RW.non (h : RW w K mg W H .non v) : v = .non := by
  cases h.pure fun _ o => nomatch o
  rfl
theorem RW.bl {b : Bool} (h : RW w K mg W H (.bl b) v) : v = .bl b := by
  cases h.pure fun _ o => nomatch o
  rfl
theorem RW.int {i : Int} (h : RW w K mg W H (.int i) v) : v = .int i := by
  cases h.pure fun _ o => nomatch o
  rfl
theorem RW.str {x : Str} (h : RW w K mg W H (.str x) v) : v = .str x := by
  cases h.pure fun _ o => nomatch o
  rfl
theorem RW.ty {n : String} (h : RW w K mg W H (.ty n) v) : v = .ty n := by
  cases h.pure fun _ o => nomatch o
  rfl
theorem RW.glob {f : Str} (h : RW w K mg W H (.glob f) v) : ∃ a, mg f = some (.ref a) ∧ v = .ref a := by
  cases h.pure fun _ o => nomatch o with
  | glob q => exact ⟨_, q, rfl⟩
theorem RW.ref {n : Nat} (h : RW w K mg W H (.ref n) v) : ∃ a, W.μ[n]? = some a ∧ v = .ref a := by
  cases h.pure fun _ o => nomatch o with
  | ref q => exact ⟨_, q, rfl⟩
theorem RW.tup {ds : List D} (h : RW w K mg W H (.tup ds) v) : ∃ a vs, v = .ref a ∧ PTu K W H a vs ∧ RVs w K mg W H ds vs := by
  cases h.pure fun _ o => nomatch o with
  | tup p r => exact ⟨_, _, rfl, p, r⟩
theorem RW.lst {ds : List D} (h : RW w K mg W H (.lst ds) v) : ∃ a vs, v = .ref a ∧ H a = some (.lst vs) ∧ RVs w K mg W H ds vs := by
  rcases h with h | ⟨a, e, _, o⟩
  · cases h with
    | lst _ q r => exact ⟨_, _, rfl, q, r⟩
  · cases o with
    | lst q r => exact ⟨_, _, e, q, r⟩
theorem RW.dct {kvs : List (D × D)} (h : RW w K mg W H (.dct kvs) v) : ∃ a es ep, v = .ref a ∧ H a = some (dO a es ep) ∧ KNd kvs ∧ RVd w K mg W H kvs es := by
  rcases h with h | ⟨a, e, _, o⟩
  · cases h with
    | dct _ q n r => exact ⟨_, _, _, rfl, q, n, r⟩
  · cases o with
    | dct q n r => exact ⟨_, _, _, e, q, n, r⟩
theorem PTu.sq {a : Addr} {xs : List V} (h : PTu K W H a xs) : SqT K H a xs := h.imp (fun ⟨_, o, q, _⟩ => .inr ⟨o, q⟩) fun x => x.1
/-! ### a new object -/
theorem same_upd {p : Addr} {o : HO} (hn : H p = none) : ∀ a u, H a = some u → upd H p o a = some u := fun a u q => by
  rw [upd_ne (ne_of_none q hn)]; exact q
theorem OO.keep {W' : Wd} {H' : Hp} {o : EO} {a : Addr} (ok : WOk W H) (g : Gr W H W' H') (k : ∀ a u, H a = some u → H' a = some u) (x : OO w K mg W H o a) : OO w K mg W' H' o a := by
  cases x with
  | lst q r => exact .lst (k _ _ q) (r.ext g)
  | fz q r => exact .fz (q.imp (fun z => k _ _ z) fun ⟨o, z⟩ => ⟨o, k _ _ z⟩) (r.ext g)
  | dct q n r => exact .dct (k _ _ q) n (r.ext g)
  | ins q r s => exact .ins q (k _ _ r) (s.ext g)
theorem HR.keep {W' : Wd} {H' : Hp} {h : EH} (ok : WOk W H) (hm : W'.μ = W.μ) (g : Gr W H W' H') (k : ∀ a u, H a = some u → H' a = some u) (x : HR w K mg W H h) : HR w K mg W' H' h :=
  ⟨by rw [hm]; exact x.len, fun n o a h1 h2 => (x.at_ n o a h1 (by rw [← hm]; exact h2)).keep ok g k⟩
/-- a new object that is settled at once -/
structure NewP (w : World) (K : PySem.W.Frag) (mg : Str → Option Value) (W : Wd) (H : Hp) (p : Addr) (o : HO) : Prop where
  ext : Ext W H (W.add p) (upd H p o)
  ok : WOk (W.add p) (upd H p o)
  hr : ∀ h, HR w K mg W H h → HR w K mg (W.add p) (upd H p o) h
theorem newP {p : Addr} {o : HO} (ok : WOk W H) (hn : H p = none) : NewP w K mg W H p o := by
  have k := same_upd (o := o) hn
  have g : Gr W H (W.add p) (upd H p o) := ⟨⟨[], by simp [Wd.add]⟩, fun _ z => .inl z, fun a u q _ => k a u q⟩
  refine ⟨⟨g.mu, g.pp, fun a u q _ => k a u q, fun a ha z => ?_, fun a _ z => z⟩, ⟨fun a z => ?_, fun a z => ⟨?_, fun y => ?_⟩, ok.nd⟩, fun h hr => hr.keep ok rfl g k⟩
  · rcases z with z | rfl
    · exact z
    · exact absurd hn ha
  · rcases z with z | rfl
    · have := ok.p a z
      cases q : H a with
      | none => exact absurd q this
      | some u => rw [k a u q]; exact fun t => nomatch t
    · rw [upd_same]; exact fun t => nomatch t
  · have := (ok.m a z).1
    cases q : H a with
    | none => exact absurd q this
    | some u => rw [k a u q]; exact fun t => nomatch t
  · rcases y with y | rfl
    · exact (ok.m a z).2 y
    · exact (ok.m a z).1 hn
/-- a new object that nobody holds -/
structure NewF (w : World) (K : PySem.W.Frag) (mg : Str → Option Value) (W : Wd) (H : Hp) (p : Addr) (o : HO) : Prop where
  ext : Ext W H W (upd H p o)
  ok : WOk W (upd H p o)
  hr : ∀ h, HR w K mg W H h → HR w K mg W (upd H p o) h
  nm : p ∉ W.μ
  np : ¬ W.P p
theorem newF {p : Addr} {o : HO} (ok : WOk W H) (hn : H p = none) : NewF w K mg W H p o := by
  have k := same_upd (o := o) hn
  have g : Gr W H W (upd H p o) := ⟨⟨[], by simp⟩, fun _ z => z, fun a u q _ => k a u q⟩
  have there : ∀ a, H a ≠ none → upd H p o a ≠ none := fun a ha => by
    cases q : H a with
    | none => exact absurd q ha
    | some u => rw [k a u q]; exact fun t => nomatch t
  exact ⟨⟨g.mu, g.pp, fun a u q _ => k a u q, fun _ _ z => z, fun _ _ z => z⟩, ⟨fun a z => there a (ok.p a z), fun a z => ⟨there a (ok.m a z).1, (ok.m a z).2⟩, ok.nd⟩, fun h hr => hr.keep ok rfl g k, fun z => (ok.m p z).1 hn, fun z => ok.p p z hn⟩
end

/-! ### names and constants -/
def mLit (d : D) : EM := fun _ h => .ok d h
def mVar (i : Nat) : EM := fun τ h => match τ[i]? with
  | some (.pu d) => .ok d h
  | _ => .no
/-- to be read alone -/
def mPeek (i : Nat) : EM := fun τ h => match τ[i]? with
  | some (.pu d) => .ok d h
  | some (.ow d) => .ok d h
  | _ => .no
section
variable {X : Cx} {e a b : Expr} {pos : Pos}
theorem sim_lit {d : D} {v : V} (h : PE X e (tC v)) (hv : ∀ W H, RV X.w X.K X.mg W H d v) : SimE X e (mLit d) := ⟨fun Wx _ => PE.imp h fun σ H Q ⟨W0, H0, W, τ, hp, s, g⟩ => g v W H (Ext.refl _ _) s.ok s.hr (hv W H)⟩
theorem sim_int {i j} : SimE X (.Constant (.int i) j pos) (mLit (.int i)) := sim_lit pe_int fun _ _ => .int i
theorem sim_bl {i j} : SimE X (.Constant (.bool i) j pos) (mLit (.bl i)) := sim_lit pe_bl fun _ _ => .bl i
theorem sim_non {j} : SimE X (.Constant .none j pos) (mLit .non) := sim_lit pe_non fun _ _ => .non
theorem sim_str {x j} : SimE X (.Constant (.str x) j pos) (mLit (.str x)) := sim_lit pe_str fun _ _ => .str x
theorem sim_var {i : Nat} {x : Str} (hN : X.N[i]? = some x) (hv : Vis X.env.scope x) (hd : (x == ("__debug__" : Str)) = false) (hcd : (x == ("__classdict__" : Str)) = false) : SimE X (.Name x pos) (mVar i) := by
  refine ⟨fun Wx _ => PE.imp (pe_var hN hv hd hcd) fun σ H Q ⟨W0, H0, W, τ, hp, s, g⟩ => ?_⟩
  unfold mVar at g
  split at g
  · rename_i d q
    obtain ⟨v, q1, q2⟩ := s.pu i d q
    exact ⟨v, q1, g v W H (Ext.refl _ _) s.ok s.hr q2⟩
  · exact g.elim
theorem simw_peek {i : Nat} {x : Str} (hN : X.N[i]? = some x) (hv : Vis X.env.scope x) (hd : (x == ("__debug__" : Str)) = false) (hcd : (x == ("__classdict__" : Str)) = false) : SimW X (.Name x pos) (mPeek i) := by
  refine ⟨fun Wx _ => PE.imp (pe_var hN hv hd hcd) fun σ H Q ⟨W0, H0, W, τ, hp, s, g⟩ => ?_⟩
  unfold mPeek at g
  split at g
  · rename_i d q
    obtain ⟨v, q1, q2⟩ := s.pu i d q
    exact ⟨v, q1, g v W H (Ext.refl _ _) s.ok s.hr (.inl q2)⟩
  · rename_i d q
    obtain ⟨a, q1, _, q3, _, q5⟩ := s.ow i d q
    exact ⟨.ref a, q1, g (.ref a) W H (Ext.refl _ _) s.ok s.hr (.inr ⟨a, rfl, q3, q5⟩)⟩
  · exact g.elim
theorem sim_glob {x : Str} {f : Addr} (hg : Gl X x) (hm : X.mg x = some (.ref f)) (hd : (x == ("__debug__" : Str)) = false) : SimE X (.Name x pos) (mLit (.glob x)) :=
  sim_lit (v := .ref f) (pe_glob hg hm rfl hd) fun _ _ => .glob hm
theorem sim_ty {x : Str} {n : String} (hg : Gl X x) (hm : X.mg x = none) (hv : bootBuiltins x = some (.type n)) (hn : x ≠ "__name__") (hd : (x == ("__debug__" : Str)) = false) : SimE X (.Name x pos) (mLit (.ty n)) :=
  sim_lit (v := .ty n) (pe_bltn hg hm hv rfl hn hd) fun _ _ => .ty n

/-! ### operators -/
/-- an operator by values -/
def rOp (X : Cx) (g : EH → D → D → Option Sl) : R2 := fun x y H Q => ∃ W h dx dy d, WOk W H ∧ HR X.w X.K X.mg W H h ∧ RW X.w X.K X.mg W H dx x ∧ RW X.w X.K X.mg W H dy y ∧ g h dx dy = some d ∧
  ∀ v W' H', Ext W H W' H' → WOk W' H' → HR X.w X.K X.mg W' H' h → rF X.w X.K X.mg W H W' H' d v → Q v H'
def lift {α : Type} (o : Option α) (h : EH) : R α := match o with
  | some d => .ok d h
  | none => .no
def mBin (g : EH → D → D → Option Sl) (ma mb : EM) : FM := fun τ h => (ma τ h).bind fun x h1 => (mb τ h1).bind fun y h2 => lift (g h2 x y) h2
theorem op_tg {g : EH → D → D → Option Sl} {ma mb : EM} {Wx : WX} {σ : L2.St} {H : Hp} {Q : VK} (q : Tg X (rF X.w X.K X.mg) (mBin g ma mb) Wx σ H Q) :
    tOp (rOp X g) (Tg X (rW X.w X.K X.mg) ma Wx) (Tg X (rW X.w X.K X.mg) mb Wx) σ H Q := by
  obtain ⟨W0, H0, W, τ, h, s, g0⟩ := q
  refine ⟨W0, H0, W, τ, h, s, Ko.step monoF g0 fun x h1 v W1 H1 _ e1 ok1 hr1 r1 g1 => ⟨W0, H0, W1, τ, h1, s.step e1 ok1 hr1, Ko.step monoF g1 fun y h2 u W2 H2 _ e2 ok2 hr2 r2 g2 => ?_⟩⟩
  unfold lift at g2
  split at g2
  · rename_i d q
    exact ⟨W2, h2, x, y, d, ok2, hr2, r1.ext e2 ok1, r2, q, g2⟩
  · exact g2.elim
theorem sim_op {op : Operator} {g : EH → D → D → Option Sl} {ma mb : EM} (ho : OpR X (binaryOp op) (rOp X g)) (ha : SimW X a ma) (hb : SimW X b mb) : SimF X (.BinOp a op b pos) (mBin g ma mb) :=
  ⟨fun Wx tk => PE.imp (pe_op ho (ha.run Wx tk) (hb.run Wx tk)) fun _ _ _ q => op_tg q⟩
theorem sim_cmp {op : CmpOp} {g : EH → D → D → Option Sl} {ma mb : EM} (ho : OpR X (compareOp op) (rOp X g)) (ha : SimW X a ma) (hb : SimW X b mb) (hm : behindInMarks op b = false) : SimF X (.Compare a [op] [b] pos) (mBin g ma mb) :=
  ⟨fun Wx tk => PE.imp (pe_cmpR ho (ha.run Wx tk) (hb.run Wx tk) hm) fun _ _ _ q => op_tg q⟩
/-- what a rule gives where no object is made -/
theorem rOp.pure {g : EH → D → D → Option Sl} {x y : V} {H : Hp} {Q : VK} (q : rOp X g x y H Q) {d : D} {v : V}
    (hq : ∀ W h dx dy, WOk W H → HR X.w X.K X.mg W H h → RW X.w X.K X.mg W H dx x → RW X.w X.K X.mg W H dy y → g h dx dy = some (.pu d) ∧ RV X.w X.K X.mg W H d v) : Q v H := by
  obtain ⟨W, h, dx, dy, d', ok, hr, rx, ry, e, k⟩ := q
  obtain ⟨e', r⟩ := hq W h dx dy ok hr rx ry
  rw [e'] at e
  cases e
  exact k v W H (Ext.refl _ _) ok hr r
def L : Nat := 16777216
theorem L_eq : L = sizeLine := rfl

def oAdd (_ : EH) : D → D → Option Sl
  | .int a, .int b => some (.pu (.int (a + b)))
  | .str a, .str b => if a.length + b.length ≤ L then some (.pu (.str (a ++ b))) else none
  | .tup a, .tup b => if a.length + b.length ≤ L then some (.pu (.tup (a ++ b))) else none
  | .lst a, .lst b => if a.length + b.length ≤ L then some (.ow (.lst (a ++ b))) else none
  | _, _ => none
theorem op_oAdd : OpR X (binaryOp .Add) (rOp X oAdd) := by
  intro pins s σ H x y v u Q I rx ry q
  obtain ⟨W, h, dx, dy, d, ok, hr, wx, wy, e, k⟩ := q
  unfold oAdd at e
  split at e
  · rename_i a b
    cases e
    cases wx.int; cases wy.int
    exact op_add pins s σ H _ _ v u Q I rx ry ⟨_, _, rfl, rfl, k _ W H (Ext.refl _ _) ok hr (.int _)⟩
  · rename_i a b
    split at e
    · rename_i hl
      cases e
      cases wx.str; cases wy.str
      exact op_add_str pins s σ H _ _ v u Q I rx ry ⟨_, _, rfl, rfl, hl, k _ W H (Ext.refl _ _) ok hr (.str _)⟩
    · cases e
  · rename_i a b
    split at e
    · rename_i hl
      cases e
      obtain ⟨p, xs, rfl, p1, p2⟩ := wx.tup
      obtain ⟨q, ys, rfl, q1, q2⟩ := wy.tup
      refine op_catP pins s σ H _ _ v u Q I rx ry ⟨_, _, _, _, rfl, rfl, p1.sq, q1.sq, by rw [← p2.length, ← q2.length]; exact hl, fun hx => ?_, fun hx hy => ?_, fun _ _ c oo hc hdn => ?_⟩
      · have : a = [] := List.length_eq_zero_iff.mp (by rw [p2.length, hx]; rfl)
        subst this
        exact k _ W H (Ext.refl _ _) ok hr (.tup q1 q2)
      · have : b = [] := List.length_eq_zero_iff.mp (by rw [q2.length, hy]; rfl)
        subst this
        rw [List.append_nil] at k
        exact k _ W H (Ext.refl _ _) ok hr (.tup p1 p2)
      · have N := newP (w := X.w) (K := X.K) (mg := X.mg) (o := .frz oo (.tup (xs ++ ys))) ok hc
        exact k _ _ _ N.ext N.ok (N.hr _ hr) (.tup (.inl ⟨.inr rfl, oo, upd_same, hdn⟩) ((p2.append q2).ext (N.ext.gr ok)))
    · cases e
  · rename_i a b
    split at e
    · rename_i hl
      cases e
      obtain ⟨p, xs, rfl, p1, p2⟩ := wx.lst
      obtain ⟨q, ys, rfl, q1, q2⟩ := wy.lst
      refine op_cat pins s σ H _ _ v u Q I rx ry ⟨_, _, _, _, rfl, rfl, p1, q1, by rw [← p2.length, ← q2.length]; exact hl, fun c hc => ?_⟩
      have N := newF (w := X.w) (K := X.K) (mg := X.mg) (o := .lst (xs ++ ys)) ok hc
      exact k _ _ _ N.ext N.ok (N.hr _ hr) ⟨c, rfl, hc, N.nm, N.np, .lst upd_same ((p2.append q2).ext (N.ext.gr ok))⟩
    · cases e
  · cases e
end
end Mp

set_option Elab.async false
set_option linter.all false
set_option maxRecDepth 100000
/-! Mp, part 4: operators and comparisons by values. -/
namespace Mp
open PySem PySem.Spec L2
open PyProof.Rows hiding St

/-! ### plain data as the library reads them -/
section
variable {w : World} {K : PySem.W.Frag} {mg : Str → Option Value} {W : Wd} {H : Hp}
mutual
theorem okd_lay : ∀ (n : Nat) (d : D), D.okd n d = true → (D.pd d).canLay0 = true ∧ (D.pd d).depth ≤ n
  | n, .non, _ => by simp [D.pd, PyData.canLay0, PyData.depth]
  | n, .bl _, _ => by simp [D.pd, PyData.canLay0, PyData.depth]
  | n, .int _, _ => by simp [D.pd, PyData.canLay0, PyData.depth]
  | n, .str x, h => by
    have h' : PyData.strOk x = true := by
      cases n <;> simpa [D.okd] using h
    simp [D.pd, PyData.canLay0, PyData.depth, h']
  | 0, .tup _, h => by simp [D.okd] at h
  | 0, .lst _, h => by simp [D.okd] at h
  | n + 1, .tup ds, h => by
    rw [D.okd] at h
    obtain ⟨h1, h2⟩ := okds_lay n ds h
    simp only [D.pd, PyData.canLay0, PyData.depth]
    exact ⟨h1, by omega⟩
  | n + 1, .lst ds, h => by
    rw [D.okd] at h
    obtain ⟨h1, h2⟩ := okds_lay n ds h
    simp only [D.pd, PyData.canLay0, PyData.depth]
    exact ⟨h1, by omega⟩
  | n, .ty _, h => by cases n <;> simp [D.okd] at h
  | n, .glob _, h => by cases n <;> simp [D.okd] at h
  | n, .ref _, h => by cases n <;> simp [D.okd] at h
  | n, .dct _, h => by cases n <;> simp [D.okd] at h
  | n, .fzl _, h => by cases n <;> simp [D.okd] at h
theorem okds_lay : ∀ (n : Nat) (ds : List D), D.okds n ds = true → PyData.canLayAll0 (D.pds ds) = true ∧ PyData.depthAll (D.pds ds) ≤ n
  | n, [], _ => by simp [D.pds, PyData.canLayAll0, PyData.depthAll]
  | n, d :: r, h => by
    rw [D.okds, Bool.and_eq_true] at h
    obtain ⟨h1, h2⟩ := okd_lay n d h.1
    obtain ⟨h3, h4⟩ := okds_lay n r h.2
    simp only [D.pds, PyData.canLayAll0, PyData.depthAll, Bool.and_eq_true]
    exact ⟨⟨h1, h3⟩, by omega⟩
end
theorem okd_shaped {d : D} (h : D.okd 60 d = true) : SeqAt.shaped (D.pd d) = true := by
  obtain ⟨h1, h2⟩ := okd_lay 60 d h
  unfold SeqAt.shaped
  rw [h1, decide_eq_true (by omega)]
  rfl
mutual
theorem okd_dp : ∀ (n : Nat) (d : D) (v : V), D.okd n d = true → RV w K mg W H d v → Dp K H v (D.pd d)
  | n, .non, _, _, r => by cases r; exact .non
  | n, .bl _, _, _, r => by cases r; exact .bl _
  | n, .int _, _, _, r => by cases r; exact .int _
  | n, .str x, _, h, r => by cases r; exact .str _
  | 0, .tup _, _, h, _ => by simp [D.okd] at h
  | 0, .lst _, _, h, _ => by simp [D.okd] at h
  | n + 1, .tup ds, _, h, r => by
    rw [D.okd] at h
    cases r with
    | tup p r => exact .tup p.sq (okds_dp n ds _ h r)
  | n + 1, .lst ds, _, h, r => by
    rw [D.okd] at h
    cases r with
    | lst _ q r => exact .lst (SqL.of q) (okds_dp n ds _ h r)
  | n, .ty _, _, h, _ => by cases n <;> simp [D.okd] at h
  | n, .glob _, _, h, _ => by cases n <;> simp [D.okd] at h
  | n, .ref _, _, h, _ => by cases n <;> simp [D.okd] at h
  | n, .dct _, _, h, _ => by cases n <;> simp [D.okd] at h
  | n, .fzl _, _, h, _ => by cases n <;> simp [D.okd] at h
theorem okds_dp : ∀ (n : Nat) (ds : List D) (vs : List V), D.okds n ds = true → RVs w K mg W H ds vs → DpAll K H vs (D.pds ds)
  | _, [], _, _, r => by cases r; exact .nil
  | n, d :: r, _, h, q => by
    rw [D.okds, Bool.and_eq_true] at h
    cases q with
    | cons q1 q2 => exact .cons (okd_dp n d _ h.1 q1) (okds_dp n r _ h.2 q2)
end
theorem RW.dp {d : D} {v : V} {n : Nat} (h : D.okd n d = true) (r : RW w K mg W H d v) : Dp K H v (D.pd d) := by
  rcases r with r | ⟨a, rfl, _, o⟩
  · exact okd_dp n d v h r
  · cases o with
    | lst q r =>
      cases n with
      | zero => simp [D.okd] at h
      | succ n =>
        rw [D.okd] at h
        exact .lst (SqL.of q) (okds_dp n _ _ h r)
    | dct _ _ _ => cases n <;> simp [D.okd] at h
end

section
variable {X : Cx} {e a b : Expr} {pos : Pos}
/-! ### ints -/
def oSub (_ : EH) : D → D → Option Sl
  | .int a, .int b => some (.pu (.int (a - b)))
  | _, _ => none
theorem op_oSub : OpR X (binaryOp .Sub) (rOp X oSub) := by
  intro pins s σ H x y v u Q I rx ry q
  obtain ⟨W, h, dx, dy, d, ok, hr, wx, wy, e, k⟩ := q
  unfold oSub at e
  split at e
  · cases e
    cases wx.int; cases wy.int
    exact op_sub pins s σ H _ _ v u Q I rx ry ⟨_, _, rfl, rfl, k _ W H (Ext.refl _ _) ok hr (.int _)⟩
  · cases e
/-- what may be multiplied -/
def mulOk (i j : Int) : Bool := !(decide (Builtin.Int.intBits i > shortFactorBits) && decide (Builtin.Int.intBits j > shortFactorBits) && Builtin.Int.intTooBig (Builtin.Int.intBits i + Builtin.Int.intBits j))
theorem op_mulM : OpR X (binaryOp .Mult) (rI IntMulOk fun i j => .int (i * j)) := opI fun _ _ _ _ _ _ _ hc q => mul_int q hc
def oMul (_ : EH) : D → D → Option Sl
  | .int a, .int b => if mulOk a b = true then some (.pu (.int (a * b))) else none
  | .lst a, .int k => if 0 ≤ k ∧ k ≤ 1000000 ∧ a.length * k.toNat ≤ L then some (.ow (.lst (List.replicate k.toNat a).flatten)) else none
  | .tup a, .int k => if 1 ≤ k ∧ k ≤ 1000 ∧ a.length ≤ 1000 ∧ a ≠ [] then some (.pu (.tup (List.replicate k.toNat a).flatten)) else none
  | _, _ => none
theorem RVs.nil_iff {w : World} {K : PySem.W.Frag} {mg : Str → Option Value} {W : Wd} {H : Hp} {ds : List D} {vs : List V} (r : RVs w K mg W H ds vs) : vs = [] ↔ ds = [] := by
  cases r <;> simp
theorem RVs.rep {w : World} {K : PySem.W.Frag} {mg : Str → Option Value} {W : Wd} {H : Hp} {ds : List D} {vs : List V} (r : RVs w K mg W H ds vs) : ∀ n : Nat, RVs w K mg W H (List.replicate n ds).flatten (List.replicate n vs).flatten
  | 0 => .nil
  | n + 1 => by
    rw [List.replicate_succ, List.replicate_succ, List.flatten_cons, List.flatten_cons]
    exact r.append (r.rep n)
theorem op_oMul : OpR X (binaryOp .Mult) (rOp X oMul) := by
  intro pins s σ H x y v u Q I rx ry q
  obtain ⟨W, h, dx, dy, d, ok, hr, wx, wy, e, k⟩ := q
  unfold oMul at e
  split at e
  · split at e
    · rename_i a b hm
      cases e
      cases wx.int; cases wy.int
      have hm' : IntMulOk a b := by
        unfold mulOk at hm
        unfold IntMulOk
        rw [Bool.not_eq_true'] at hm
        rw [hm]
        exact Bool.false_ne_true
      exact op_mulM pins s σ H _ _ v u Q I rx ry ⟨_, _, rfl, rfl, hm', k _ W H (Ext.refl _ _) ok hr (.int _)⟩
    · cases e
  · split at e
    · rename_i a kk hm
      obtain ⟨h0, h1, h2⟩ := hm
      cases e
      obtain ⟨p, xs, rfl, p1, p2⟩ := wx.lst
      cases wy.int
      refine op_rep pins s σ H _ _ v u Q I rx ry ⟨_, _, _, rfl, rfl, p1, by omega, by omega, by rw [← p2.length]; exact h2, fun c hc => ?_⟩
      have N := newF (w := X.w) (K := X.K) (mg := X.mg) (o := .lst (List.replicate kk.toNat xs).flatten) ok hc
      exact k _ _ _ N.ext N.ok (N.hr _ hr) ⟨c, rfl, hc, N.nm, N.np, .lst upd_same ((p2.rep _).ext (N.ext.gr ok))⟩
    · cases e
  · split at e
    · rename_i a kk hm
      obtain ⟨h0, h1, h2, h3⟩ := hm
      cases e
      obtain ⟨p, xs, rfl, p1, p2⟩ := wx.tup
      cases wy.int
      have key : ∀ (n : Nat), kk.toNat = n → rRepP X.K (.ref p) (.int kk) H Q := fun n hn => by
        refine ⟨p, kk, xs, rfl, rfl, p1.sq, fun z => h3 (p2.nil_iff.mp z), by rw [← p2.length]; exact h2, ?_⟩
        by_cases h1' : kk = 1
        · refine .inl ⟨h1', ?_⟩
          subst h1'
          have e1 : (List.replicate (1 : Int).toNat a).flatten = a := by simp
          rw [e1] at k
          exact k _ W H (Ext.refl _ _) ok hr (.tup p1 p2)
        · refine .inr ⟨by omega, h1, fun c oo hc hdn => ?_⟩
          have N := newP (w := X.w) (K := X.K) (mg := X.mg) (o := .frz oo (.tup (List.replicate kk.toNat xs).flatten)) ok hc
          exact k _ _ _ N.ext N.ok (N.hr _ hr) (.tup (.inl ⟨.inr rfl, oo, upd_same, hdn⟩) ((p2.rep _).ext (N.ext.gr ok)))
      exact op_repP pins s σ H _ _ v u Q I rx ry (key _ rfl)
    · cases e
  · cases e
def oDiv (_ : EH) : D → D → Option Sl
  | .int a, .int b => if b ≠ 0 ∧ Builtin.divisionGoesByPylong a b = false then some (.pu (.int (a.fdiv b))) else none
  | _, _ => none
theorem op_oDiv : OpR X (binaryOp .FloorDiv) (rOp X oDiv) := by
  intro pins s σ H x y v u Q I rx ry q
  obtain ⟨W, h, dx, dy, d, ok, hr, wx, wy, e, k⟩ := q
  unfold oDiv at e
  split at e
  · split at e
    · rename_i hm
      obtain ⟨h0, h1⟩ := hm
      cases e
      cases wx.int; cases wy.int
      obtain ⟨t, rfl⟩ := rx
      obtain ⟨t', rfl⟩ := ry
      exact floordiv_int h0 ⟨.int _, H, I.tok _, ⟨_, rfl⟩, k _ W H (Ext.refl _ _) ok hr (.int _)⟩ (.inl h1)
    · cases e
  · cases e
def oMod (_ : EH) : D → D → Option Sl
  | .int a, .int b => if b ≠ 0 then some (.pu (.int (a.fmod b))) else none
  | _, _ => none
theorem op_oMod : OpR X (binaryOp .Mod) (rOp X oMod) := by
  intro pins s σ H x y v u Q I rx ry q
  obtain ⟨W, h, dx, dy, d, ok, hr, wx, wy, e, k⟩ := q
  unfold oMod at e
  split at e
  · split at e
    · rename_i hm
      cases e
      cases wx.int; cases wy.int
      exact op_modN pins s σ H _ _ v u Q I rx ry ⟨_, _, rfl, rfl, hm, k _ W H (Ext.refl _ _) ok hr (.int _)⟩
    · cases e
  · cases e
def oPow (_ : EH) : D → D → Option Sl
  | .int a, .int b => if 0 ≤ b ∧ b ≤ 1000000 ∧ a.natAbs < 2 ^ 64 then some (.pu (.int (a ^ b.toNat))) else none
  | _, _ => none
theorem op_oPow : OpR X (binaryOp .Pow) (rOp X oPow) := by
  intro pins s σ H x y v u Q I rx ry q
  obtain ⟨W, h, dx, dy, d, ok, hr, wx, wy, e, k⟩ := q
  unfold oPow at e
  split at e
  · split at e
    · rename_i hm
      cases e
      cases wx.int; cases wy.int
      exact op_pow pins s σ H _ _ v u Q I rx ry ⟨_, _, rfl, rfl, hm, k _ W H (Ext.refl _ _) ok hr (.int _)⟩
    · cases e
  · cases e
/-! ### == and the order -/
def oEq (_ : EH) (a b : D) : Option Sl := if (D.okd 60 a && D.okd 60 b) = true then some (.pu (.bl (PyData.eqv a.pd b.pd))) else none
def oNe (_ : EH) (a b : D) : Option Sl := if (D.okd 60 a && D.okd 60 b) = true then some (.pu (.bl (!PyData.eqv a.pd b.pd))) else none
theorem op_oEq (hu : X.A.units + 64 < cLine) : OpR X (compareOp .Eq) (rOp X oEq) := by
  intro pins s σ H x y v u Q I rx ry q
  obtain ⟨W, h, dx, dy, d, ok, hr, wx, wy, e, k⟩ := q
  unfold oEq at e
  split at e
  · rename_i hm
    rw [Bool.and_eq_true] at hm
    cases e
    exact op_eqD hu pins s σ H _ _ v u Q I rx ry ⟨_, _, wx.dp hm.1, wy.dp hm.2, okd_shaped hm.1, okd_shaped hm.2, k _ W H (Ext.refl _ _) ok hr (.bl _)⟩
  · cases e
theorem op_oNe (hu : X.A.units + 64 < cLine) : OpR X (compareOp .NotEq) (rOp X oNe) := by
  intro pins s σ H x y v u Q I rx ry q
  obtain ⟨W, h, dx, dy, d, ok, hr, wx, wy, e, k⟩ := q
  unfold oNe at e
  split at e
  · rename_i hm
    rw [Bool.and_eq_true] at hm
    cases e
    exact op_neD hu pins s σ H _ _ v u Q I rx ry ⟨_, _, wx.dp hm.1, wy.dp hm.2, okd_shaped hm.1, okd_shaped hm.2, k _ W H (Ext.refl _ _) ok hr (.bl _)⟩
  · cases e
/-- what may be put in order -/
def ordOk (a b : D) : Bool := D.okd 60 a && D.okd 60 b && PySem.W.alike a.pd b.pd && !a.beq .non
def oLt (_ : EH) (a b : D) : Option Sl := if ordOk a b = true then some (.pu (.bl (PySem.W.dataLt a.pd b.pd))) else none
def oLe (_ : EH) (a b : D) : Option Sl := if ordOk a b = true then some (.pu (.bl (!PySem.W.dataLt b.pd a.pd))) else none
def oGt (_ : EH) (a b : D) : Option Sl := if ordOk a b = true then some (.pu (.bl (PySem.W.dataLt b.pd a.pd))) else none
def oGe (_ : EH) (a b : D) : Option Sl := if ordOk a b = true then some (.pu (.bl (!PySem.W.dataLt a.pd b.pd))) else none
theorem pd_none {n : Nat} {a : D} (h : D.okd n a = true) (h2 : a.beq .non = false) : a.pd ≠ .none := by
  cases a with
  | non => simp [D.beq] at h2
  | ty _ => cases n <;> simp [D.okd] at h
  | glob _ => cases n <;> simp [D.okd] at h
  | ref _ => cases n <;> simp [D.okd] at h
  | dct _ => cases n <;> simp [D.okd] at h
  | fzl _ => cases n <;> simp [D.okd] at h
  | _ => simp [D.pd]
/-- what an order's rule wants -/
theorem ord_of {pins : List (Addr × Obj)} {s : Shared} {σ : L2.St} {H : Hp} {W : Wd} {x y : V} {v u : Value} {a b : D} (hu : X.A.units + 64 < cLine) (I : Inv X pins σ H s) (rx : RelV x v) (ry : RelV y u)
    (wx : RW X.w X.K X.mg W H a x) (wy : RW X.w X.K X.mg W H b y) (h : ordOk a b = true) :
    ∃ as bs, Reads s.heap v a.pd as ∧ Reads s.heap u b.pd bs ∧ PySem.W.alike a.pd b.pd = true ∧ a.pd ≠ .none ∧ X.A.units + min a.pd.depth b.pd.depth < cLine := by
  unfold ordOk at h
  rw [Bool.and_eq_true, Bool.and_eq_true, Bool.and_eq_true, Bool.not_eq_true'] at h
  obtain ⟨⟨⟨h1, h2⟩, h3⟩, h4⟩ := h
  obtain ⟨as, r1⟩ := Dp.reads I _ x v (wx.dp h1) rx
  obtain ⟨bs, r2⟩ := Dp.reads I _ y u (wy.dp h2) ry
  have := (okd_lay 60 a h1).2
  exact ⟨as, bs, r1, r2, h3, pd_none h1 h4, by have := Nat.min_le_left a.pd.depth b.pd.depth; omega⟩
theorem op_oLt (hu : X.A.units + 64 < cLine) : OpR X (compareOp .Lt) (rOp X oLt) := by
  intro pins s σ H x y v u Q I rx ry q
  obtain ⟨W, h, dx, dy, d, ok, hr, wx, wy, e, k⟩ := q
  unfold oLt at e
  split at e
  · rename_i hm
    cases e
    obtain ⟨as, bs, r1, r2, h1, h2, h3⟩ := ord_of hu I rx ry wx wy hm
    exact PySem.W.lt_data r1 r2 h1 h2 h3 ⟨.bl _, H, I, rfl, k _ W H (Ext.refl _ _) ok hr (.bl _)⟩
  · cases e
theorem op_oLe (hu : X.A.units + 64 < cLine) : OpR X (compareOp .LtE) (rOp X oLe) := by
  intro pins s σ H x y v u Q I rx ry q
  obtain ⟨W, h, dx, dy, d, ok, hr, wx, wy, e, k⟩ := q
  unfold oLe at e
  split at e
  · rename_i hm
    cases e
    obtain ⟨as, bs, r1, r2, h1, h2, h3⟩ := ord_of hu I rx ry wx wy hm
    exact PySem.W.le_data r1 r2 h1 h2 h3 ⟨.bl _, H, I, rfl, k _ W H (Ext.refl _ _) ok hr (.bl _)⟩
  · cases e
theorem op_oGt (hu : X.A.units + 64 < cLine) : OpR X (compareOp .Gt) (rOp X oGt) := by
  intro pins s σ H x y v u Q I rx ry q
  obtain ⟨W, h, dx, dy, d, ok, hr, wx, wy, e, k⟩ := q
  unfold oGt at e
  split at e
  · rename_i hm
    cases e
    obtain ⟨as, bs, r1, r2, h1, h2, h3⟩ := ord_of hu I rx ry wx wy hm
    exact PySem.W.gt_data r1 r2 h1 h2 h3 ⟨.bl _, H, I, rfl, k _ W H (Ext.refl _ _) ok hr (.bl _)⟩
  · cases e
theorem op_oGe (hu : X.A.units + 64 < cLine) : OpR X (compareOp .GtE) (rOp X oGe) := by
  intro pins s σ H x y v u Q I rx ry q
  obtain ⟨W, h, dx, dy, d, ok, hr, wx, wy, e, k⟩ := q
  unfold oGe at e
  split at e
  · rename_i hm
    cases e
    obtain ⟨as, bs, r1, r2, h1, h2, h3⟩ := ord_of hu I rx ry wx wy hm
    exact PySem.W.ge_data r1 r2 h1 h2 h3 ⟨.bl _, H, I, rfl, k _ W H (Ext.refl _ _) ok hr (.bl _)⟩
  · cases e
/-! ### is None -/
def D.isNon : D → Bool
  | .non => true
  | _ => false
theorem RW.isNon {w : World} {K : PySem.W.Frag} {mg : Str → Option Value} {W : Wd} {H : Hp} {d : D} {v : V} (r : RW w K mg W H d v) : decide (v = .non) = d.isNon := by
  rcases r with r | ⟨a, rfl, _, o⟩
  · cases r <;> simp [D.isNon]
  · cases o <;> simp [D.isNon]
def oIs (_ : EH) (a b : D) : Option Sl := if b.isNon = true then some (.pu (.bl a.isNon)) else none
def oIsNot (_ : EH) (a b : D) : Option Sl := if b.isNon = true then some (.pu (.bl (!a.isNon))) else none
theorem op_oIs : OpR X (compareOp .Is) (rOp X oIs) := by
  intro pins s σ H x y v u Q I rx ry q
  obtain ⟨W, h, dx, dy, d, ok, hr, wx, wy, e, k⟩ := q
  unfold oIs at e
  split at e
  · rename_i hm
    cases e
    have hy : y = .non := of_decide_eq_true (wy.isNon.trans hm)
    exact op_isN pins s σ H _ _ v u Q I rx ry ⟨hy, by rw [wx.isNon]; exact k _ W H (Ext.refl _ _) ok hr (.bl _)⟩
  · cases e
theorem op_oIsNot : OpR X (compareOp .IsNot) (rOp X oIsNot) := by
  intro pins s σ H x y v u Q I rx ry q
  obtain ⟨W, h, dx, dy, d, ok, hr, wx, wy, e, k⟩ := q
  unfold oIsNot at e
  split at e
  · rename_i hm
    cases e
    have hy : y = .non := of_decide_eq_true (wy.isNon.trans hm)
    exact op_notN pins s σ H _ _ v u Q I rx ry ⟨hy, by rw [wx.isNon]; exact k _ W H (Ext.refl _ _) ok hr (.bl _)⟩
  · cases e
end
end Mp

set_option Elab.async false
set_option linter.all false
set_option maxRecDepth 100000
/-! Mp, dicts: how one stands, opened for the library's rules and closed again. -/
namespace Mp
open PySem PySem.Spec L2
open PyProof.Rows hiding St

/-! ### dicts as data -/
/-- a key that may be asked of this dict, or put to it -/
def dFlat (kvs : List (D × D)) (k : D) : Bool := isFlat k && allFlat kvs
def dTup (kvs : List (D × D)) (k : D) : Bool := isTkey k && allTkey kvs
def dOk (kvs : List (D × D)) (k : D) : Bool := dFlat kvs k || dTup kvs k
def dget (kvs : List (D × D)) (k : D) : Option D := (kvs.find? fun e => decide (e.1 = k)).map (·.2)
def dput (kvs : List (D × D)) (k d : D) : List (D × D) := if kvs.any (fun e => decide (e.1 = k)) = true then kvs.map (fun e => if e.1 = k then (e.1, d) else e) else kvs ++ [(k, d)]
def ddel (kvs : List (D × D)) (k : D) : List (D × D) := kvs.filter fun e => decide (e.1 ≠ k)
theorem dput_len (kvs : List (D × D)) (k d : D) : (dput kvs k d).length ≤ kvs.length + 1 := by
  unfold dput
  split <;> simp
theorem dput_keys {kvs : List (D × D)} {k d : D} {e : D × D} (h : e ∈ dput kvs k d) : e.1 = k ∨ ∃ d', (e.1, d') ∈ kvs := by
  unfold dput at h
  split at h
  · obtain ⟨x, hx, rfl⟩ := List.mem_map.mp h
    by_cases q : x.1 = k
    · exact .inl (by rw [if_pos q]; exact q)
    · exact .inr ⟨x.2, by rw [if_neg q]; exact hx⟩
  · rcases List.mem_append.mp h with h | h
    · exact .inr ⟨e.2, h⟩
    · exact .inl (by rw [List.mem_singleton.mp h])
theorem nodup_put {kvs : List (D × D)} (h : (kvs.map (·.1)).Nodup) (k d : D) : ((dput kvs k d).map (·.1)).Nodup := by
  unfold dput
  split
  · rw [List.map_map]
    have e : ((fun e : D × D => e.1) ∘ fun e : D × D => if e.1 = k then (e.1, d) else e) = fun e => e.1 := by
      funext e
      simp only [Function.comp]
      split <;> rfl
    rw [e]
    exact h
  · rename_i hn
    rw [List.map_append, List.nodup_append]
    refine ⟨h, by simp, fun a ha b hb => ?_⟩
    rw [List.map_cons, List.map_nil, List.mem_singleton] at hb
    subst hb
    intro q
    subst q
    obtain ⟨x, hx, hk⟩ := List.mem_map.mp ha
    refine hn (List.any_eq_true.mpr ⟨x, hx, ?_⟩)
    exact decide_eq_true hk
theorem all_put {p : D → Bool} {kvs : List (D × D)} {k d : D} (hk : p k = true) (h : (kvs.all fun e => p e.1) = true) : ((dput kvs k d).all fun e => p e.1) = true := by
  rw [List.all_eq_true] at h ⊢
  intro e he
  rcases dput_keys he with q | ⟨d', q⟩
  · rw [q]; exact hk
  · exact h (e.1, d') q
theorem KNd.put {kvs : List (D × D)} (h : KNd kvs) {k : D} (hk : dOk kvs k = true) (d : D) : KNd (dput kvs k d) := by
  refine ⟨nodup_put h.nd k d, ?_⟩
  unfold dOk dFlat dTup at hk
  rw [Bool.or_eq_true, Bool.and_eq_true, Bool.and_eq_true] at hk
  rcases hk with ⟨h1, h2⟩ | ⟨h1, h2⟩
  · exact .inl (all_put (p := isFlat) h1 h2)
  · exact .inr (all_put (p := isTkey) h1 h2)
theorem KNd.del {kvs : List (D × D)} (h : KNd kvs) (k : D) : KNd (ddel kvs k) := by
  refine ⟨h.nd.sublist (List.Sublist.map _ List.filter_sublist), h.hom.imp (fun q => ?_) fun q => ?_⟩
  all_goals
    unfold ddel
    first | unfold allFlat at q ⊢ | unfold allTkey at q ⊢
    rw [List.all_eq_true] at q ⊢
    exact fun e he => q e (List.mem_filter.mp he).1
theorem fkey_inj {a b : D} {k : Key} (h : fkey a = some k) (g : fkey b = some k) : a = b := by
  cases a <;> simp only [fkey, Option.some.injEq, reduceCtorEq] at h
  all_goals
    cases b <;> simp only [fkey, Option.some.injEq, reduceCtorEq] at g
    all_goals
      subst h
      first
        | (injection g with g; rw [g])
        | (cases g)
mutual
theorem key_inj : ∀ (a b : D) (n : NestedKey), D.key a = some n → D.key b = some n → a = b := fun a b n h g => by
  cases a <;> simp only [D.key, Option.some.injEq, reduceCtorEq, Option.map_eq_some_iff] at h
  all_goals
    cases b <;> simp only [D.key, Option.some.injEq, reduceCtorEq, Option.map_eq_some_iff] at g
    all_goals first
      | rfl
      | (subst h; injection g with g; rw [g]; done)
      | (subst h; cases g; done)
      | (subst h; obtain ⟨l, h1, h2⟩ := g; cases h2; done)
      | (obtain ⟨l, h1, h2⟩ := h; subst h2; cases g; done)
      | (obtain ⟨l, h1, h2⟩ := h
         obtain ⟨l', g1, g2⟩ := g
         subst h2
         injection g2 with g2
         subst g2
         rw [keys_inj _ _ _ h1 g1])
theorem keys_inj : ∀ (a b : List D) (n : List NestedKey), D.keys a = some n → D.keys b = some n → a = b
  | [], [], _, _, _ => rfl
  | [], d :: r, n, h, g => by
    simp only [D.keys, Option.some.injEq] at h
    subst h
    rw [D.keys] at g
    split at g
    · obtain ⟨l, _, q⟩ := Option.map_eq_some_iff.mp g
      cases q
    · cases g
  | d :: r, [], n, h, g => by
    simp only [D.keys, Option.some.injEq] at g
    subst g
    rw [D.keys] at h
    split at h
    · obtain ⟨l, _, q⟩ := Option.map_eq_some_iff.mp h
      cases q
    · cases h
  | d :: r, e :: t, n, h, g => by
    rw [D.keys] at h g
    split at h
    · rename_i k hk
      split at g
      · rename_i k' hk'
        obtain ⟨l, h1, q⟩ := Option.map_eq_some_iff.mp h
        obtain ⟨l', g1, q'⟩ := Option.map_eq_some_iff.mp g
        subst q
        injection q' with q1 q2
        subst q1 q2
        rw [key_inj d e _ hk hk', keys_inj r t _ h1 g1]
      · cases g
    · cases h
end

section
variable {w : World} {K : PySem.W.Frag} {mg : Str → Option Value} {W W' : Wd} {H H' : Hp}
/-- a dict of flat keys against the library's pairs -/
inductive Fz (w : World) (K : PySem.W.Frag) (mg : Str → Option Value) (W : Wd) (H : Hp) : List (D × D) → List (Key × Value) → Prop
  | nil : Fz w K mg W H [] []
  | cons {k d κ v u r l} : fkey k = some κ → D.okd 8 k = true → RV w K mg W H d v → RelV v u → Fz w K mg W H r l → Fz w K mg W H ((k, d) :: r) ((κ, u) :: l)
/-- .. of tuple keys -/
inductive Tz (w : World) (K : PySem.W.Frag) (mg : Str → Option Value) (W : Wd) (H : Hp) : List (D × D) → List (NestedKey × Addr × Value) → Prop
  | nil : Tz w K mg W H [] []
  | cons {k d n b v u r l} : D.key k = some n → D.okd 8 k = true → RV w K mg W H k (.ref b) → RV w K mg W H d v → RelV v u → Tz w K mg W H r l → Tz w K mg W H ((k, d) :: r) ((n, b, u) :: l)
theorem Fz.len : ∀ {kvs : List (D × D)} {l : List (Key × Value)}, Fz w K mg W H kvs l → kvs.length = l.length
  | _, _, .nil => rfl
  | _, _, .cons _ _ _ _ t => by rw [List.length_cons, List.length_cons, t.len]
theorem Tz.len : ∀ {kvs : List (D × D)} {l : List (NestedKey × Addr × Value)}, Tz w K mg W H kvs l → kvs.length = l.length
  | _, _, .nil => rfl
  | _, _, .cons _ _ _ _ _ t => by rw [List.length_cons, List.length_cons, t.len]
theorem flat_kV {k : D} {κ : Key} {v : V} (h : fkey k = some κ) (r : RV w K mg W H k v) : v = kV κ := by
  cases k <;> simp only [fkey, Option.some.injEq, reduceCtorEq] at h
  · subst h; cases r; rfl
  · subst h; cases r; rfl
theorem flat_rv {k : D} {κ : Key} (h : fkey k = some κ) : RV w K mg W H k (kV κ) := by
  cases k <;> simp only [fkey, Option.some.injEq, reduceCtorEq] at h
  · subst h; exact .int _
  · subst h; exact .str _
theorem flat_key {k : D} {κ : Key} (h : fkey k = some κ) : ∃ n, D.key k = some n ∧ n.hash w = keyH w κ := by
  cases k <;> simp only [fkey, Option.some.injEq, reduceCtorEq] at h
  · subst h; exact ⟨_, rfl, rfl⟩
  · subst h; exact ⟨_, rfl, rfl⟩
theorem kV_rel {κ : Key} {u : Value} (r : RelV (kV κ) u) : keyIs κ u = true := by
  cases κ with
  | inl i => obtain ⟨t, rfl⟩ := r; exact keyIs_int i t
  | inr x => obtain ⟨t, rfl⟩ := r; exact keyIs_str x t
theorem rel_kV {κ : Key} {u : Value} (h : keyIs κ u = true) : RelV (kV κ) u := by
  rcases keyIs_shape h with ⟨i, t, rfl, rfl⟩ | ⟨x, t, rfl, rfl⟩
  · exact ⟨t, rfl⟩
  · exact ⟨t, rfl⟩
theorem keyIs_one {a b : Key} {u : Value} (h : keyIs a u = true) (g : keyIs b u = true) : a = b := by
  rcases keyIs_shape h with ⟨i, t, rfl, rfl⟩ | ⟨x, t, rfl, rfl⟩
  · rcases keyIs_shape g with ⟨j, t', rfl, e⟩ | ⟨y, t', rfl, e⟩
    · cases e; rfl
    · cases e
  · rcases keyIs_shape g with ⟨j, t', rfl, e⟩ | ⟨y, t', rfl, e⟩
    · cases e
    · cases e; rfl
theorem flat_open {P : Program} : ∀ {kvs : List (D × D)} {es : List Ent}, RVd w K mg W H kvs es → allFlat kvs = true →
    ∃ l, Fz w K mg W H kvs l ∧ Pairs (mixKind P w) es l ∧ ∀ e ∈ es, ∃ k, (mixKind P w).is k e.key = true ∧ e.hash = (mixKind P w).hash k
  | _, _, .nil, _ => ⟨[], .nil, .nil, fun e he => nomatch he⟩
  | _, _, .cons (k := k) (d := d) (e := e) h8 hn hh rk e2 rd e3 t, hf => by
    unfold allFlat at hf
    rw [List.all_cons, Bool.and_eq_true] at hf
    obtain ⟨l, q1, q2, q3⟩ := flat_open t hf.2
    have hk := hf.1
    unfold isFlat at hk
    rw [Bool.and_eq_true] at hk
    obtain ⟨κ, hκ⟩ := Option.isSome_iff_exists.mp hk.1
    obtain ⟨n, hn', hh'⟩ := flat_key (w := w) hκ
    have hn'' : D.key k = some n := hn'
    rw [hn] at hn''
    cases hn''
    have ek := flat_kV hκ rk
    subst ek
    have ik := kV_rel e2
    refine ⟨_, .cons hκ h8 rd e3 q1, .cons ik rfl q2, fun e' he => ?_⟩
    rcases List.mem_cons.mp he with rfl | he
    · exact ⟨κ, ik, hh.trans hh'⟩
    · exact q3 e' he
theorem flat_close {P : Program} : ∀ {kvs : List (D × D)} {l : List (Key × Value)} {es : List Ent}, Fz w K mg W H kvs l → Pairs (mixKind P w) es l →
    (∀ e ∈ es, ∃ k, (mixKind P w).is k e.key = true ∧ e.hash = (mixKind P w).hash k) → RVd w K mg W H kvs es
  | _, _, _, .nil, p, _ => by
    cases p
    exact .nil
  | _, _, _, .cons (κ := κ) hk h8 rd ru t, p, hh => by
    cases p with
    | cons p1 p2 p3 =>
      have q1 := flat_close t p3 fun e he => hh e (List.mem_cons_of_mem _ he)
      obtain ⟨n, hn, hh2⟩ := flat_key (w := w) hk
      obtain ⟨k', i1, i2⟩ := hh _ List.mem_cons_self
      have ek : k' = κ := keyIs_one i1 p1
      subst ek
      subst p2
      exact .cons h8 hn (i2.trans hh2.symm) (flat_rv hk) (rel_kV p1) rd ru q1
theorem flat_nd : ∀ {kvs : List (D × D)} {l : List (Key × Value)}, Fz w K mg W H kvs l → (kvs.map (·.1)).Nodup → (l.map (·.1)).Nodup
  | _, _, .nil, _ => by simp
  | _, _, .cons (k := k) (κ := κ) hk _ _ _ t, nd => by
    rw [List.map_cons, List.nodup_cons] at nd
    rw [List.map_cons, List.nodup_cons]
    refine ⟨fun h => ?_, flat_nd t nd.2⟩
    have : ∀ {kvs : List (D × D)} {l : List (Key × Value)}, Fz w K mg W H kvs l → κ ∈ l.map (·.1) → k ∈ kvs.map (·.1) := by
      intro kvs l f
      induction f with
      | nil => intro z; simp at z
      | cons hk' _ _ _ _ ih =>
        intro z
        rw [List.map_cons, List.mem_cons] at z ⊢
        rcases z with z | z
        · have z' : κ = _ := z
          subst z'
          exact .inl (fkey_inj hk hk')
        · exact .inr (ih z)
    exact nd.1 (this t h)
theorem flat_get {k : D} {κ : Key} (hk : fkey k = some κ) : ∀ {kvs : List (D × D)} {l : List (Key × Value)}, Fz w K mg W H kvs l →
    (∀ d, dget kvs k = some d → ∃ v u, valueAt l κ = some u ∧ RV w K mg W H d v ∧ RelV v u) ∧ (dget kvs k = none → valueAt l κ = none)
  | _, _, .nil => ⟨fun d h => by simp [dget] at h, fun _ => rfl⟩
  | _, _, .cons (k := k') (d := d') (κ := κ') (v := v') (u := u') (r := r) (l := l) hk' _ rd ru t => by
    obtain ⟨ih1, ih2⟩ := flat_get hk t
    by_cases q : k' = k
    · subst q
      rw [hk] at hk'
      cases hk'
      refine ⟨fun d h => ⟨v', u', by simp [valueAt], ?_, ru⟩, fun h => by simp [dget] at h⟩
      have : d' = d := by simpa [dget] using h
      rw [← this]
      exact rd
    · have q' : ¬ κ' = κ := fun z => q (fkey_inj hk' (z ▸ hk))
      have e1 : dget ((k', d') :: r) k = dget r k := by simp [dget, q]
      have e2 : valueAt ((κ', u') :: l) κ = valueAt l κ := by simp [valueAt, q']
      rw [e1, e2]
      exact ⟨ih1, ih2⟩
theorem flat_any {k : D} {κ : Key} (hk : fkey k = some κ) : ∀ {kvs : List (D × D)} {l : List (Key × Value)}, Fz w K mg W H kvs l → (l.any fun e => decide (e.1 = κ)) = kvs.any fun e => decide (e.1 = k)
  | _, _, .nil => rfl
  | _, _, .cons (k := k') (κ := κ') hk' _ _ _ t => by
    rw [List.any_cons, List.any_cons, flat_any hk t]
    congr 1
    by_cases q : k' = k
    · subst q
      rw [hk] at hk'
      cases hk'
      simp
    · have q' : ¬ κ' = κ := fun z => q (fkey_inj hk' (z ▸ hk))
      simp [q, q']
theorem Fz.append : ∀ {kvs kvs' : List (D × D)} {l l' : List (Key × Value)}, Fz w K mg W H kvs l → Fz w K mg W H kvs' l' → Fz w K mg W H (kvs ++ kvs') (l ++ l')
  | _, _, _, _, .nil, h => h
  | _, _, _, _, .cons a b c d t, h => .cons a b c d (t.append h)
theorem flat_map {k d : D} {κ : Key} {v : V} {u : Value} (hk : fkey k = some κ) (rd : RV w K mg W H d v) (ru : RelV v u) : ∀ {kvs : List (D × D)} {l : List (Key × Value)}, Fz w K mg W H kvs l →
    Fz w K mg W H (kvs.map fun e => if e.1 = k then (e.1, d) else e) (l.map fun e => if e.1 = κ then (e.1, u) else e)
  | _, _, .nil => .nil
  | _, _, .cons (k := k') (κ := κ') hk' h8 rd' ru' t => by
    rw [List.map_cons, List.map_cons]
    by_cases q : k' = k
    · subst q
      rw [hk] at hk'
      cases hk'
      rw [if_pos rfl, if_pos rfl]
      exact .cons hk h8 rd ru (flat_map hk rd ru t)
    · have q' : ¬ κ' = κ := fun z => q (fkey_inj hk' (z ▸ hk))
      rw [if_neg q, if_neg q']
      exact .cons hk' h8 rd' ru' (flat_map hk rd ru t)
theorem flat_put {k d : D} {κ : Key} {v : V} {u : Value} (hk : fkey k = some κ) (h8 : D.okd 8 k = true) (rd : RV w K mg W H d v) (ru : RelV v u) {kvs : List (D × D)} {l : List (Key × Value)} (f : Fz w K mg W H kvs l) :
    Fz w K mg W H (dput kvs k d) (stored l κ u) := by
  unfold dput stored
  rw [flat_any hk f]
  split
  · exact flat_map hk rd ru f
  · exact f.append (.cons hk h8 rd ru .nil)
theorem flat_del {k : D} {κ : Key} (hk : fkey k = some κ) : ∀ {kvs : List (D × D)} {l : List (Key × Value)}, Fz w K mg W H kvs l → Fz w K mg W H (ddel kvs k) (without l κ)
  | _, _, .nil => .nil
  | _, _, .cons (k := k') (d := d') (κ := κ') (u := u') (r := r) (l := l) hk' h8 rd' ru' t => by
    have ih := flat_del hk t
    by_cases q : k' = k
    · subst q
      rw [hk] at hk'
      cases hk'
      have e1 : ddel ((k', d') :: r) k' = ddel r k' := by simp [ddel]
      have e2 : without ((κ, u') :: l) κ = without l κ := by simp [without]
      rw [e1, e2]
      exact ih
    · have q' : ¬ κ' = κ := fun z => q (fkey_inj hk' (z ▸ hk))
      have e1 : ddel ((k', d') :: r) k = (k', d') :: ddel r k := by simp [ddel, q]
      have e2 : without ((κ', u') :: l) κ = (κ', u') :: without l κ := by simp [without, q']
      rw [e1, e2]
      exact .cons hk' h8 rd' ru' ih

/-! tuple keys -/
theorem tup_open {P : Program} : ∀ {kvs : List (D × D)} {es : List Ent}, RVd w K mg W H kvs es → allTkey kvs = true →
    ∃ l, Tz w K mg W H kvs l ∧ es = l.map (entryOfKey (nestedKind P w))
  | _, _, .nil, _ => ⟨[], .nil, rfl⟩
  | _, _, .cons (k := k) (d := d) (n := n) (e := e) h8 hn hh rk e2 rd e3 t, hf => by
    unfold allTkey at hf
    rw [List.all_cons, Bool.and_eq_true] at hf
    obtain ⟨l, q1, q2⟩ := tup_open t hf.2
    have hk : isTkey k = true := hf.1
    unfold isTkey at hk
    rw [Bool.and_eq_true, Bool.and_eq_true] at hk
    cases k with
    | tup ds =>
      cases rk with
      | tup pt rs =>
        have eb : e.key = .ref _ := e2
        refine ⟨_, .cons hn h8 (.tup pt rs) rd e3 q1, ?_⟩
        rw [List.map_cons, ← q2]
        congr 1
        obtain ⟨eh, ek, ev⟩ := e
        simp only at eb hh
        subst eb
        rw [hh]
        rfl
    | _ => simp [D.isTup] at hk
theorem tup_close {P : Program} : ∀ {kvs : List (D × D)} {l : List (NestedKey × Addr × Value)}, Tz w K mg W H kvs l → RVd w K mg W H kvs (l.map (entryOfKey (nestedKind P w)))
  | _, _, .nil => .nil
  | _, _, .cons hn h8 rk rd ru t => .cons h8 hn rfl rk rfl rd ru (tup_close (P := P) t)
theorem tup_nd : ∀ {kvs : List (D × D)} {l : List (NestedKey × Addr × Value)}, Tz w K mg W H kvs l → (kvs.map (·.1)).Nodup → (l.map (·.1)).Nodup
  | _, _, .nil, _ => by simp
  | _, _, .cons (k := k) (n := n) hk _ _ _ _ t, nd => by
    rw [List.map_cons, List.nodup_cons] at nd
    rw [List.map_cons, List.nodup_cons]
    refine ⟨fun h => ?_, tup_nd t nd.2⟩
    have : ∀ {kvs : List (D × D)} {l : List (NestedKey × Addr × Value)}, Tz w K mg W H kvs l → n ∈ l.map (·.1) → k ∈ kvs.map (·.1) := by
      intro kvs l f
      induction f with
      | nil => intro z; simp at z
      | cons hk' _ _ _ _ _ ih =>
        intro z
        rw [List.map_cons, List.mem_cons] at z ⊢
        rcases z with z | z
        · have z' : n = _ := z
          subst z'
          exact .inl (key_inj _ _ _ hk hk')
        · exact .inr (ih z)
    exact nd.1 (this t h)
theorem tup_get {k : D} {n : NestedKey} (hk : D.key k = some n) : ∀ {kvs : List (D × D)} {l : List (NestedKey × Addr × Value)}, Tz w K mg W H kvs l →
    (∀ d, dget kvs k = some d → ∃ v p, atKey l n = some p ∧ RV w K mg W H d v ∧ RelV v p.2) ∧ (dget kvs k = none → atKey l n = none)
  | _, _, .nil => ⟨fun d h => by simp [dget] at h, fun _ => rfl⟩
  | _, _, .cons (k := k') (d := d') (n := n') (b := b') (v := v') (u := u') (r := r) (l := l) hk' _ _ rd ru t => by
    obtain ⟨ih1, ih2⟩ := tup_get hk t
    by_cases q : k' = k
    · subst q
      rw [hk] at hk'
      cases hk'
      refine ⟨fun d h => ⟨v', (b', u'), by simp [atKey], ?_, ru⟩, fun h => by simp [dget] at h⟩
      have : d' = d := by simpa [dget] using h
      rw [← this]
      exact rd
    · have q' : ¬ n' = n := fun z => q (key_inj _ _ _ hk' (z ▸ hk))
      have e1 : dget ((k', d') :: r) k = dget r k := by simp [dget, q]
      have e2 : atKey ((n', b', u') :: l) n = atKey l n := by simp [atKey, q']
      rw [e1, e2]
      exact ⟨ih1, ih2⟩
theorem tup_any {k : D} {n : NestedKey} (hk : D.key k = some n) : ∀ {kvs : List (D × D)} {l : List (NestedKey × Addr × Value)}, Tz w K mg W H kvs l → (atKey l n).isSome = kvs.any fun e => decide (e.1 = k)
  | _, _, .nil => rfl
  | _, _, .cons (k := k') (d := d') (n := n') (b := b') (u := u') (r := r) (l := l) hk' _ _ _ _ t => by
    have ih := tup_any hk t
    by_cases q : k' = k
    · subst q
      rw [hk] at hk'
      cases hk'
      simp [atKey]
    · have q' : ¬ n' = n := fun z => q (key_inj _ _ _ hk' (z ▸ hk))
      rw [List.any_cons, ← ih]
      simp [atKey, q, q']
theorem Tz.append : ∀ {kvs kvs' : List (D × D)} {l l' : List (NestedKey × Addr × Value)}, Tz w K mg W H kvs l → Tz w K mg W H kvs' l' → Tz w K mg W H (kvs ++ kvs') (l ++ l')
  | _, _, _, _, .nil, h => h
  | _, _, _, _, .cons a b c d e t, h => .cons a b c d e (t.append h)
theorem tup_map {k d : D} {n : NestedKey} {v : V} {u : Value} (hk : D.key k = some n) (rd : RV w K mg W H d v) (ru : RelV v u) : ∀ {kvs : List (D × D)} {l : List (NestedKey × Addr × Value)}, Tz w K mg W H kvs l →
    Tz w K mg W H (kvs.map fun e => if e.1 = k then (e.1, d) else e) (l.map (putAt n u))
  | _, _, .nil => .nil
  | _, _, .cons (k := k') (n := n') hk' h8 rk rd' ru' t => by
    rw [List.map_cons, List.map_cons]
    by_cases q : k' = k
    · subst q
      rw [hk] at hk'
      cases hk'
      unfold putAt
      rw [if_pos rfl, if_pos rfl]
      exact .cons hk h8 rk rd ru (tup_map hk rd ru t)
    · have q' : ¬ n' = n := fun z => q (key_inj _ _ _ hk' (z ▸ hk))
      rw [if_neg q]
      unfold putAt
      rw [if_neg q']
      exact .cons hk' h8 rk rd' ru' (tup_map hk rd ru t)
theorem tup_put {k d : D} {n : NestedKey} {b : Addr} {v : V} {u : Value} (hk : D.key k = some n) (h8 : D.okd 8 k = true) (rk : RV w K mg W H k (.ref b)) (rd : RV w K mg W H d v) (ru : RelV v u) {kvs : List (D × D)} {l : List (NestedKey × Addr × Value)} (f : Tz w K mg W H kvs l) :
    Tz w K mg W H (dput kvs k d) (storedH l n b u) := by
  unfold dput storedH
  rw [tup_any hk f]
  split
  · exact tup_map hk rd ru f
  · exact f.append (.cons hk h8 rk rd ru .nil)
theorem tup_del {k : D} {n : NestedKey} (hk : D.key k = some n) : ∀ {kvs : List (D × D)} {l : List (NestedKey × Addr × Value)}, Tz w K mg W H kvs l → Tz w K mg W H (ddel kvs k) (withoutH l n)
  | _, _, .nil => .nil
  | _, _, .cons (k := k') (d := d') (n := n') (b := b') (u := u') (r := r) (l := l) hk' h8 rk rd' ru' t => by
    have ih := tup_del hk t
    by_cases q : k' = k
    · subst q
      rw [hk] at hk'
      cases hk'
      have e1 : ddel ((k', d') :: r) k' = ddel r k' := by simp [ddel]
      have e2 : withoutH ((n, b', u') :: l) n = withoutH l n := by simp [withoutH]
      rw [e1, e2]
      exact ih
    · have q' : ¬ n' = n := fun z => q (key_inj _ _ _ hk' (z ▸ hk))
      have e1 : ddel ((k', d') :: r) k = (k', d') :: ddel r k := by simp [ddel, q]
      have e2 : withoutH ((n', b', u') :: l) n = (n', b', u') :: withoutH l n := by simp [withoutH, q']
      rw [e1, e2]
      exact .cons hk' h8 rk rd' ru' ih
end
end Mp

set_option Elab.async false
set_option linter.all false
set_option maxRecDepth 100000
/-! Mp, dicts and sequences at a place of the run. -/
namespace Mp
open PySem PySem.Spec L2
open PyProof.Rows hiding St

/-! ### a container read through a reference -/
def der (h : EH) (d : D) : D := match d with
  | .ref n => match h[n]? with
    | some (.lst ds) => .lst ds
    | some (.fz ds) => .lst ds
    | some (.dct kvs) => .dct kvs
    | _ => .ref n
  | .fzl ds => .lst ds
  | d => d
section
variable {w : World} {K : PySem.W.Frag} {mg : Str → Option Value} {W : Wd} {H : Hp} {v : V}
/-- a container that may be read -/
inductive Cn (w : World) (K : PySem.W.Frag) (mg : Str → Option Value) (W : Wd) (H : Hp) : D → Addr → Prop
  | lst {ds a vs} : SqL K H a vs → RVs w K mg W H ds vs → Cn w K mg W H (.lst ds) a
  | dct {kvs a es ep} : H a = some (dO a es ep) → KNd kvs → RVd w K mg W H kvs es → Cn w K mg W H (.dct kvs) a
def RX (w : World) (K : PySem.W.Frag) (mg : Str → Option Value) (W : Wd) (H : Hp) (d : D) (v : V) : Prop := RW w K mg W H d v ∨ ∃ a, v = .ref a ∧ Cn w K mg W H d a
theorem RW.x {h : EH} {d : D} (r : RW w K mg W H d v) (hr : HR w K mg W H h) : RX w K mg W H (der h d) v := by
  cases d with
  | ref n =>
    obtain ⟨a, hm, rfl⟩ := r.ref
    unfold der
    simp only
    split
    · rename_i ds q
      cases hr.at_ n _ a q hm with
      | lst x y => exact .inr ⟨a, rfl, .lst (.inl (.inl x)) y⟩
    · rename_i ds q
      cases hr.at_ n _ a q hm with
      | fz x y => exact .inr ⟨a, rfl, .lst (.inl x) y⟩
    · rename_i kvs q
      cases hr.at_ n _ a q hm with
      | dct x n y => exact .inr ⟨a, rfl, .dct x n y⟩
    · exact .inl r
  | fzl ds =>
    cases r.pure fun _ o => nomatch o with
    | fzl p q => exact .inr ⟨_, rfl, .lst (p.imp (fun x => x.2) _root_.id) q⟩
  | _ => exact .inl r
theorem RX.pure {d : D} (h : RX w K mg W H d v) (hd : ∀ a, ¬ Cn w K mg W H d a) : RW w K mg W H d v := by
  rcases h with h | ⟨a, _, o⟩
  · exact h
  · exact (hd a o).elim
theorem RX.int {i : Int} (h : RX w K mg W H (.int i) v) : v = .int i := (h.pure fun _ o => nomatch o).int
theorem RX.str {i : Str} (h : RX w K mg W H (.str i) v) : v = .str i := (h.pure fun _ o => nomatch o).str
theorem RX.bl {i : Bool} (h : RX w K mg W H (.bl i) v) : v = .bl i := (h.pure fun _ o => nomatch o).bl
theorem RX.non (h : RX w K mg W H .non v) : v = .non := (h.pure fun _ o => nomatch o).non
theorem RX.tup {ds : List D} (h : RX w K mg W H (.tup ds) v) : ∃ a vs, v = .ref a ∧ SqT K H a vs ∧ RVs w K mg W H ds vs := by
  obtain ⟨a, vs, h1, h2, h3⟩ := (h.pure fun _ o => nomatch o).tup
  exact ⟨a, vs, h1, h2.sq, h3⟩
theorem RX.lst {ds : List D} (h : RX w K mg W H (.lst ds) v) : ∃ a vs, v = .ref a ∧ SqL K H a vs ∧ RVs w K mg W H ds vs := by
  rcases h with h | ⟨a, e, o⟩
  · obtain ⟨a, vs, h1, h2, h3⟩ := h.lst
    exact ⟨a, vs, h1, .inl (.inl h2), h3⟩
  · cases o with
    | lst q r => exact ⟨a, _, e, q, r⟩
theorem RX.dct {kvs : List (D × D)} (h : RX w K mg W H (.dct kvs) v) : ∃ a es ep, v = .ref a ∧ H a = some (dO a es ep) ∧ KNd kvs ∧ RVd w K mg W H kvs es := by
  rcases h with h | ⟨a, e, o⟩
  · exact h.dct
  · cases o with
    | dct q n r => exact ⟨a, _, _, e, q, n, r⟩
theorem RVs.at {ds : List D} {vs : List V} {i : Int} {d : D} (r : RVs w K mg W H ds vs) (h : atI ds i = some d) : ∃ v, atI vs i = some v ∧ RV w K mg W H d v := by
  unfold atI at h ⊢
  rw [← r.length]
  cases e : ixN ds.length i with
  | none => rw [e] at h; cases h
  | some j =>
    rw [e] at h
    obtain ⟨v, q1, q2⟩ := r.get h
    exact ⟨v, q1, q2⟩
theorem RX.dp {d : D} {n : Nat} (h : D.okd n d = true) (r : RX w K mg W H d v) : Dp K H v (D.pd d) := by
  rcases r with r | ⟨a, rfl, o⟩
  · exact r.dp h
  · cases o with
    | lst q r =>
      cases n with
      | zero => simp [D.okd] at h
      | succ n =>
        rw [D.okd] at h
        exact .lst q (okds_dp n _ _ h r)
    | dct _ _ _ => cases n <;> simp [D.okd] at h
end

/-! ### a dict at a place of the run -/
section
variable {X : Cx} {pins : List (Addr × Obj)} {s : Shared} {σ : L2.St} {H : Hp} {W : Wd} {a : Addr} {es : List Ent} {ep : Nat} {kvs : List (D × D)}
theorem dict_raw (I : Inv X pins σ H s) (hH : H a = some (dO a es ep)) : (a == sysModules) = false ∧ es.length ≤ sizeLine ∧ ∃ o, s.heap.get? a = some o ∧ o.ExactDict ∧ o.data = .dict es.toArray ep := (I.hok a _ hH).1
theorem RVd.len {w : World} {K : PySem.W.Frag} {mg : Str → Option Value} : ∀ {kvs : List (D × D)} {es : List Ent}, RVd w K mg W H kvs es → kvs.length = es.length
  | _, _, .nil => rfl
  | _, _, .cons _ _ _ _ _ _ _ t => by rw [List.length_cons, List.length_cons, t.len]
theorem dict_flat (I : Inv X pins σ H s) (hH : H a = some (dO a es ep)) (nd : KNd kvs) (r : RVd X.w X.K X.mg W H kvs es) (hf : allFlat kvs = true) :
    ∃ l, s.heap.DictOf (mixKind X.prog X.w) a l ∧ Fz X.w X.K X.mg W H kvs l ∧ l.length ≤ sizeLine := by
  obtain ⟨hd, hz, o, ho, hx, hdat⟩ := dict_raw I hH
  obtain ⟨l, q1, q2, q3⟩ := flat_open (P := X.prog) r hf
  refine ⟨l, ⟨o, es.toArray, ep, ho, hx, hdat, fun e he => ?_, q2, flat_nd q1 nd.nd⟩, q1, by rw [← q1.len, r.len]; exact hz⟩
  obtain ⟨k, k1, k2⟩ := q3 e (by simpa using he)
  exact ⟨k, k1, k2⟩
mutual
theorem nested_is (I : Inv X pins σ H s) : ∀ (n : Nat) (d : D) (v : V) (u : Value) (k : NestedKey), D.okd n d = true → D.key d = some k → RV X.w X.K X.mg W H d v → RelV v u → NestedIs s.heap k u ∧ k.depth ≤ n
  | n, .non, _, _, k, _, hk, r, ru => by
    cases r
    cases ru
    simp only [D.key, Option.some.injEq] at hk
    subst hk
    exact ⟨.none, by simp [NestedKey.depth]⟩
  | n, .int i, _, _, k, _, hk, r, ru => by
    cases r
    obtain ⟨t, rfl⟩ := ru
    simp only [D.key, Option.some.injEq] at hk
    subst hk
    exact ⟨.int i t, by simp [NestedKey.depth]⟩
  | n, .str x, _, _, k, _, hk, r, ru => by
    cases r
    obtain ⟨t, rfl⟩ := ru
    simp only [D.key, Option.some.injEq] at hk
    subst hk
    exact ⟨.text x t, by simp [NestedKey.depth]⟩
  | 0, .tup _, _, _, _, h, _, _, _ => by simp [D.okd] at h
  | n + 1, .tup ds, _, _, k, h, hk, r, ru => by
    rw [D.okd] at h
    simp only [D.key, Option.map_eq_some_iff] at hk
    obtain ⟨ks, hks, rfl⟩ := hk
    cases r with
    | tup p r =>
      cases ru
      obtain ⟨its, rv, ⟨o, ho, hc, m, hd⟩, hz⟩ := I.tuple p.sq
      obtain ⟨q1, q2⟩ := nested_all I n ds _ its ks h hks r rv
      exact ⟨.tup ho hc hd (by simpa using q1), by simp only [NestedKey.depth]; omega⟩
  | n, .bl _, _, _, _, _, hk, _, _ => by simp [D.key] at hk
  | n, .lst _, _, _, _, _, hk, _, _ => by simp [D.key] at hk
  | n, .ty _, _, _, _, _, hk, _, _ => by simp [D.key] at hk
  | n, .glob _, _, _, _, _, hk, _, _ => by simp [D.key] at hk
  | n, .ref _, _, _, _, _, hk, _, _ => by simp [D.key] at hk
  | n, .dct _, _, _, _, _, hk, _, _ => by simp [D.key] at hk
  | n, .fzl _, _, _, _, _, hk, _, _ => by simp [D.key] at hk
theorem nested_all (I : Inv X pins σ H s) : ∀ (n : Nat) (ds : List D) (vs : List V) (us : List Value) (ks : List NestedKey), D.okds n ds = true → D.keys ds = some ks → RVs X.w X.K X.mg W H ds vs → Vals vs us →
    NestedAll s.heap ks us ∧ NestedKey.depthAll ks ≤ n
  | n, [], _, _, ks, _, hk, r, ru => by
    cases r
    cases ru
    simp only [D.keys, Option.some.injEq] at hk
    subst hk
    exact ⟨.nil, by simp [NestedKey.depthAll]⟩
  | n, d :: t, _, _, ks, h, hk, r, ru => by
    rw [D.okds, Bool.and_eq_true] at h
    rw [D.keys] at hk
    split at hk
    · rename_i k hkd
      obtain ⟨l, hl, rfl⟩ := Option.map_eq_some_iff.mp hk
      cases r with
      | cons r1 r2 =>
        cases ru with
        | cons u1 u2 =>
          obtain ⟨q1, q2⟩ := nested_is I n d _ _ k h.1 hkd r1 u1
          obtain ⟨q3, q4⟩ := nested_all I n t _ _ l h.2 hl r2 u2
          exact ⟨.cons q1 q3, by simp only [NestedKey.depthAll]; omega⟩
    · cases hk
end
theorem tup_is (I : Inv X pins σ H s) {k : D} {n : NestedKey} {b : Addr} (h8 : D.okd 8 k = true) (hk : D.key k = some n) (r : RV X.w X.K X.mg W H k (.ref b)) : (nestedKind X.prog X.w).is s.heap n b :=
  nested_is I 8 k (.ref b) (.ref b) n h8 hk r rfl
theorem dict_tup (I : Inv X pins σ H s) (hH : H a = some (dO a es ep)) (nd : KNd kvs) (r : RVd X.w X.K X.mg W H kvs es) (hf : allTkey kvs = true) :
    ∃ l, s.heap.DictOfH (nestedKind X.prog X.w) a l ∧ Tz X.w X.K X.mg W H kvs l ∧ l.length ≤ sizeLine := by
  obtain ⟨hd, hz, o, ho, hx, hdat⟩ := dict_raw I hH
  obtain ⟨l, q1, q2⟩ := tup_open (P := X.prog) r hf
  refine ⟨l, ⟨o, es.toArray, ep, ho, hx, hdat, q2, fun x hx => ?_, tup_nd q1 nd.nd⟩, q1, by rw [← q1.len, r.len]; exact hz⟩
  have : ∀ {kvs : List (D × D)} {l : List (NestedKey × Addr × Value)}, Tz X.w X.K X.mg W H kvs l → x ∈ l → (nestedKind X.prog X.w).is s.heap x.1 x.2.1 := by
    intro kvs l t
    induction t with
    | nil => intro z; cases z
    | cons hn h8 rk _ _ _ ih =>
      intro z
      rcases List.mem_cons.mp z with z | z
      · subst z
        exact tup_is I h8 hn rk
      · exact ih z
  exact this q1 hx
/-- closed again, behind a change -/
theorem dict_back {h' : Heap} {t' : Nat} {es' : List Ent} {ep' : Nat} (I : Inv X pins σ H s) (hH : H a = some (dO a es ep)) (hz : es'.length ≤ sizeLine) (hs : Heap.SameBut a s.heap h')
    (hd : ∃ o, h'.get? a = some o ∧ o.ExactDict ∧ o.data = .dict es'.toArray ep') : Inv X pins σ (upd H a (dO a es' ep')) { s with heap := h', toks := t' } := by
  obtain ⟨o, ho, hx, hdat⟩ := hd
  refine I.write (x := a) (e := a) (by rw [hH]; exact trivial) (.inl rfl) (fun b u hb q => (hs.2 b hb).trans q) ⟨o, ho⟩ ?_
  refine ⟨⟨(dict_raw I hH).1, hz, o, ho, hx, hdat⟩, ⟨o, ho⟩, fun h1 h2 q k => ?_⟩
  obtain ⟨z1, z2, o1, g, r⟩ := q
  exact ⟨z1, z2, o1, k _ g, r⟩
theorem dict_back_flat {h' : Heap} {t' : Nat} {l : List (Key × Value)} (I : Inv X pins σ H s) (hH : H a = some (dO a es ep)) (fz : Fz X.w X.K X.mg W H kvs l) (hd : h'.DictOf (mixKind X.prog X.w) a l) (hs : Heap.SameBut a s.heap h') (hz : kvs.length ≤ sizeLine) :
    ∃ es' ep', RVd X.w X.K X.mg W H kvs es' ∧ Inv X pins σ (upd H a (dO a es' ep')) { s with heap := h', toks := t' } := by
  obtain ⟨o, ents, ep', ho, hx, hdat, hk, hp, _⟩ := hd
  have q1 := flat_close (P := X.prog) fz hp fun e he => hk e (Array.mem_toList_iff.mp he)
  exact ⟨_, ep', q1, dict_back I hH (by rw [← q1.len]; exact hz) hs ⟨o, ho, hx, by simpa using hdat⟩⟩
theorem dict_back_tup {h' : Heap} {t' : Nat} {l : List (NestedKey × Addr × Value)} (I : Inv X pins σ H s) (hH : H a = some (dO a es ep)) (tz : Tz X.w X.K X.mg W H kvs l) (hd : h'.DictOfH (nestedKind X.prog X.w) a l) (hs : Heap.SameBut a s.heap h') (hz : kvs.length ≤ sizeLine) :
    ∃ es' ep', RVd X.w X.K X.mg W H kvs es' ∧ Inv X pins σ (upd H a (dO a es' ep')) { s with heap := h', toks := t' } := by
  obtain ⟨o, ents, ep', ho, hx, hdat, he, _, _⟩ := hd
  have q1 := tup_close (P := X.prog) tz
  rw [← he] at q1
  exact ⟨_, ep', q1, dict_back I hH (by rw [← q1.len]; exact hz) hs ⟨o, ho, hx, by simpa using hdat⟩⟩
/-- a new, empty dict -/
theorem dict_new (I : Inv X pins σ H s) (t' : Nat) : Inv X pins σ (upd H s.heap.objs.size (dO s.heap.objs.size [] 0)) { s with heap := s.heap.push { cls := .type "dict", data := .dict #[] }, toks := t' } := by
  refine I.laid (a := s.heap.objs.size) (t' := t') (fun b u q => Heap.get?_push_of_some _ q) (Nat.le_refl _) ?_
  refine ⟨⟨beq_eq_false_iff_ne.mpr (Ne.symm (Nat.ne_of_lt I.big)), Nat.zero_le _, _, Heap.get?_push_size _ rfl, ⟨rfl, rfl, rfl⟩, rfl⟩, ⟨_, Heap.get?_push_size _ rfl⟩, fun h1 h2 q k => ?_⟩
  obtain ⟨z1, z2, o1, g, r⟩ := q
  exact ⟨z1, z2, o1, k _ g, r⟩

/-! ### d[k], k in d, d[k] = v, and so on -/
theorem room8 {A : Around} (hu : A.units + 64 < cLine) : (nestedKind X.prog X.w).room A.in1 := by
  show A.units + 1 + 8 < cLine
  omega
/-- the key's two sides -/
theorem isFlat_k {k : D} (h : isFlat k = true) : ∃ κ, fkey k = some κ ∧ D.okd 8 k = true := by
  unfold isFlat at h
  rw [Bool.and_eq_true] at h
  obtain ⟨κ, hκ⟩ := Option.isSome_iff_exists.mp h.1
  exact ⟨κ, hκ, h.2⟩
theorem isTkey_k {k : D} {v : V} (h : isTkey k = true) (r : RW X.w X.K X.mg W H k v) : ∃ n b, D.key k = some n ∧ D.okd 8 k = true ∧ v = .ref b ∧ RV X.w X.K X.mg W H k (.ref b) := by
  unfold isTkey at h
  rw [Bool.and_eq_true, Bool.and_eq_true] at h
  obtain ⟨n, hn⟩ := Option.isSome_iff_exists.mp h.2
  cases k with
  | tup ds =>
    obtain ⟨b, vs, rfl, p, q⟩ := r.tup
    exact ⟨n, b, hn, h.1.2, rfl, .tup p q⟩
  | _ => simp [D.isTup] at h
theorem flat_rel {k : D} {κ : Key} {v : V} {u : Value} (h : fkey k = some κ) (r : RW X.w X.K X.mg W H k v) (ru : RelV v u) : (mixKind X.prog X.w).is κ u = true := by
  have e : v = kV κ := by
    cases k <;> simp only [fkey, Option.some.injEq, reduceCtorEq] at h
    · subst h; exact r.int
    · subst h; exact r.str
  rw [e] at ru
  exact kV_rel ru
theorem d_has {A : Around} {E : Value → Shared → Prop} {k : D} {kv : V} {ku : Value} {Q : Value → Shared → Prop} (hu : A.units + 64 < cLine) (I : Inv X pins σ H s) (hH : H a = some (dO a es ep)) (nd : KNd kvs) (r : RVd X.w X.K X.mg W H kvs es) (hk : dOk kvs k = true)
    (rk : RW X.w X.K X.mg W H k kv) (ru : RelV kv ku) (neg : Bool) (h : ∀ s', Inv X pins σ H s' → Q (.bool (if neg = true then !(dget kvs k).isSome else (dget kvs k).isSome)) s') : wpAny (model X.prog X.w) A (compareOp (if neg = true then .NotIn else .In) ku (.ref a)) Q E s := by
  have hsys := (dict_raw I hH).1
  unfold dOk dFlat dTup at hk
  rw [Bool.or_eq_true, Bool.and_eq_true, Bool.and_eq_true] at hk
  rcases hk with ⟨h1, h2⟩ | ⟨h1, h2⟩
  · obtain ⟨κ, hκ, h8⟩ := isFlat_k h1
    obtain ⟨l, q1, q2, q3⟩ := dict_flat I hH nd r h2
    obtain ⟨g1, g2⟩ := flat_get hκ q2
    have e : (valueAt l κ).isSome = (dget kvs k).isSome := by
      cases q : dget kvs k with
      | none => rw [g2 q]; rfl
      | some d =>
        obtain ⟨v, u, e1, _⟩ := g1 d q
        rw [e1]; rfl
    cases neg with
    | false => exact wpAny_in_of (flat_rel hκ rk ru) hsys q1.mapOf (by rw [e]; exact h _ (I.tok _))
    | true => exact wpAny_notIn_of (flat_rel hκ rk ru) hsys q1.mapOf (by rw [e]; exact h _ (I.tok _))
  · obtain ⟨n, b, hn, h8, rfl, rb⟩ := isTkey_k h1 rk
    obtain ⟨l, q1, q2, q3⟩ := dict_tup I hH nd r h2
    cases ru
    have e : (atKey l n).isSome = (dget kvs k).isSome := by
      obtain ⟨g1, g2⟩ := tup_get hn q2
      cases q : dget kvs k with
      | none => rw [g2 q]; rfl
      | some d =>
        obtain ⟨v, p, e1, _⟩ := g1 d q
        rw [e1]; rfl
    cases neg with
    | false => exact wpAny_in_heap (room8 hu) (tup_is I h8 hn rb) hsys q1 (by rw [e]; exact h _ (I.tok _))
    | true => exact wpAny_notIn_heap (room8 hu) (tup_is I h8 hn rb) hsys q1 (by rw [e]; exact h _ (I.tok _))
theorem d_at {A : Around} {E : Value → Shared → Prop} {k d : D} {kv : V} {ku : Value} {Q : Value → Shared → Prop} (hu : A.units + 64 < cLine) (I : Inv X pins σ H s) (hH : H a = some (dO a es ep)) (nd : KNd kvs) (r : RVd X.w X.K X.mg W H kvs es) (hk : dOk kvs k = true)
    (rk : RW X.w X.K X.mg W H k kv) (ru : RelV kv ku) (hd : dget kvs k = some d) (h : ∀ v u s', Inv X pins σ H s' → RV X.w X.K X.mg W H d v → RelV v u → Q u s') : wpAny (model X.prog X.w) A (getItem (.ref a) ku) Q E s := by
  unfold dOk dFlat dTup at hk
  rw [Bool.or_eq_true, Bool.and_eq_true, Bool.and_eq_true] at hk
  rcases hk with ⟨h1, h2⟩ | ⟨h1, h2⟩
  · obtain ⟨κ, hκ, h8⟩ := isFlat_k h1
    obtain ⟨l, q1, q2, q3⟩ := dict_flat I hH nd r h2
    obtain ⟨v, u, e1, e2, e3⟩ := (flat_get hκ q2).1 d hd
    exact wpAny_getItem_of (flat_rel hκ rk ru) q1.mapOf e1 (h v u _ (I.tok _) e2 e3)
  · obtain ⟨n, b, hn, h8, rfl, rb⟩ := isTkey_k h1 rk
    obtain ⟨l, q1, q2, q3⟩ := dict_tup I hH nd r h2
    cases ru
    obtain ⟨v, p, e1, e2, e3⟩ := (tup_get hn q2).1 d hd
    exact wpAny_getItem_heap (room8 hu) (tup_is I h8 hn rb) q1 e1 (h v p.2 _ (I.tok _) e2 e3)
theorem d_set {A : Around} {E : Value → Shared → Prop} {k d : D} {kv v : V} {ku u : Value} {Q : Unit → Shared → Prop} (hu : A.units + 64 < cLine) (I : Inv X pins σ H s) (hH : H a = some (dO a es ep)) (nd : KNd kvs) (r : RVd X.w X.K X.mg W H kvs es) (hk : dOk kvs k = true)
    (rk : RW X.w X.K X.mg W H k kv) (ru : RelV kv ku) (rd : RV X.w X.K X.mg W H d v) (rv : RelV v u) (hz : kvs.length < sizeLine)
    (h : ∀ es' ep' s', RVd X.w X.K X.mg W H (dput kvs k d) es' → Inv X pins σ (upd H a (dO a es' ep')) s' → Q () s') : wpAny (model X.prog X.w) A (setItem (.ref a) ku u) Q E s := by
  have hz' : (dput kvs k d).length ≤ sizeLine := Nat.le_trans (dput_len _ _ _) hz
  unfold dOk dFlat dTup at hk
  rw [Bool.or_eq_true, Bool.and_eq_true, Bool.and_eq_true] at hk
  rcases hk with ⟨h1, h2⟩ | ⟨h1, h2⟩
  · obtain ⟨κ, hκ, h8⟩ := isFlat_k h1
    obtain ⟨l, q1, q2, q3⟩ := dict_flat I hH nd r h2
    refine wpAny_setItem_pairs (hsz := q3) (flat_rel hκ rk ru) q1 fun h' hd' hs => ?_
    obtain ⟨es', ep', p1, p2⟩ := dict_back_flat (t' := s.toks + 1) I hH (flat_put hκ h8 rd rv q2) hd' hs hz'
    exact h es' ep' _ p1 p2
  · obtain ⟨n, b, hn, h8, rfl, rb⟩ := isTkey_k h1 rk
    obtain ⟨l, q1, q2, q3⟩ := dict_tup I hH nd r h2
    cases ru
    refine wpAny_setItem_heap (hsz := q3) (room8 hu) (tup_is I h8 hn rb) q1 fun h' hd' hs => ?_
    obtain ⟨es', ep', p1, p2⟩ := dict_back_tup (t' := s.toks + (nestedKind X.prog X.w).draws n) I hH (tup_put hn h8 rb rd rv q2) hd' hs hz'
    exact h es' ep' _ p1 p2
theorem d_len {A : Around} {E : Value → Shared → Prop} {Q : Value → Shared → Prop} (I : Inv X pins σ H s) (hH : H a = some (dO a es ep)) (nd : KNd kvs) (r : RVd X.w X.K X.mg W H kvs es)
    (h : ∀ t s', Inv X pins σ H s' → Q (.int kvs.length t) s') : wpAny (model X.prog X.w) A (call (.builtin "len") [.ref a]) Q E s := by
  have hsys := (dict_raw I hH).1
  have hn := line63
  rcases nd.hom with hf | hf
  · obtain ⟨l, q1, q2, q3⟩ := dict_flat I hH nd r hf
    exact call_len_dict hsys q1 (by omega) (by rw [← q2.len]; exact h _ _ (I.tok _))
  · obtain ⟨l, q1, q2, q3⟩ := dict_tup I hH nd r hf
    exact call_len_dictH hsys q1 (by omega) (by rw [← q2.len]; exact h _ _ (I.tok _))
end
end Mp

set_option Elab.async false
set_option linter.all false
set_option maxRecDepth 100000
/-! Mp: in, subscripts, slices, tests, and, or, not, displays, calls of built-ins by values. -/
namespace Mp
open PySem PySem.Spec L2
open PyProof.Rows hiding St

section
variable {X : Cx} {e a b c : Expr} {pos : Pos}
/-! ### in -/
def inB (a : D) (b : D) : Option Bool := match b with
  | .tup ds => if (D.okd 60 a && D.okds 59 ds) = true then some ((D.pds ds).any fun z => PyData.eqv z a.pd) else none
  | .lst ds => if (D.okd 60 a && D.okds 59 ds) = true then some ((D.pds ds).any fun z => PyData.eqv z a.pd) else none
  | .dct kvs => if dOk kvs a = true then some (dget kvs a).isSome else none
  | .str z => match a with
    | .str y => match y.cps.toList with
      | [c] => some (decide (c ∈ z.cps.toList))
      | _ => none
    | _ => none
  | _ => none
def oIn (neg : Bool) (h : EH) (a b : D) : Option Sl := (inB a (der h b)).map fun r => .pu (.bl (if neg = true then !r else r))
theorem op_oIn (hu : X.A.units + 70 < cLine) (neg : Bool) : OpR X (compareOp (if neg = true then .NotIn else .In)) (rOp X (oIn neg)) := by
  intro pins s σ H x y v u Q I rx ry q
  obtain ⟨W, h, dx, dy, d, ok, hr, wx, wy, e, k⟩ := q
  unfold oIn at e
  obtain ⟨r, e1, e2⟩ := Option.map_eq_some_iff.mp e
  subst e2
  have wy' := wy.x hr
  have fin : ∀ s', Inv X pins σ H s' → EP X pins σ Q (.bool (if neg = true then !r else r)) s' := fun s' I' => ⟨.bl _, H, I', rfl, k _ W H (Ext.refl _ _) ok hr (.bl _)⟩
  generalize der h dy = b at e1 wy'
  unfold inB at e1
  split at e1
  · rename_i ds
    split at e1
    · rename_i hm
      rw [Bool.and_eq_true] at hm
      cases e1
      have hd := wx.dp hm.1
      have hs := wy'.dp (n := 60) (by rw [D.okd]; exact hm.2)
      obtain ⟨as, r1⟩ := Dp.reads I _ x v hd rx
      obtain ⟨bs, r2⟩ := Dp.reads I _ y u hs ry
      obtain ⟨l1, l2⟩ := okd_lay 60 dx hm.1
      have l3 := (okds_lay 59 ds hm.2).1
      have hroom : X.A.units + 1 + min (PyData.depthAll (D.pds ds)) dx.pd.depth < cLine := by have := Nat.min_le_right (PyData.depthAll (D.pds ds)) dx.pd.depth; omega
      rw [D.pd] at r2
      cases neg with
      | false => exact SeqAt.in_tuple_reads r2 r1 l3 l1 hroom (fin s I)
      | true => exact SeqAt.notIn_tuple_reads r2 r1 l3 l1 hroom (fin s I)
    · cases e1
  · rename_i ds
    split at e1
    · rename_i hm
      rw [Bool.and_eq_true] at hm
      cases e1
      have hd := wx.dp hm.1
      have hs := wy'.dp (n := 60) (by rw [D.okd]; exact hm.2)
      obtain ⟨as, r1⟩ := Dp.reads I _ x v hd rx
      obtain ⟨bs, r2⟩ := Dp.reads I _ y u hs ry
      obtain ⟨l1, l2⟩ := okd_lay 60 dx hm.1
      have l3 := (okds_lay 59 ds hm.2).1
      have hroom : X.A.units + 1 + min (PyData.depthAll (D.pds ds)) dx.pd.depth < cLine := by have := Nat.min_le_right (PyData.depthAll (D.pds ds)) dx.pd.depth; omega
      rw [D.pd] at r2
      cases neg with
      | false => exact SeqAt.in_list_reads r2 r1 l3 l1 hroom (fin s I)
      | true => exact SeqAt.notIn_list_reads r2 r1 l3 l1 hroom (fin s I)
    · cases e1
  · rename_i kvs
    split at e1
    · rename_i hm
      cases e1
      obtain ⟨p, es, ep, rfl, hH, nd, rd⟩ := wy'.dct
      cases ry
      exact d_has (by omega) I hH nd rd hm wx rx neg fin
    · cases e1
  · rename_i z
    split at e1
    · rename_i y0
      split at e1
      · rename_i c hc
        cases e1
        cases wx.str
        cases wy'.str
        have ey : y0 = ⟨#[c]⟩ := by
          cases y0 with
          | mk cps =>
            have : cps = #[c] := by
              apply Array.toList_inj.mp
              simpa using hc
            rw [this]
        subst ey
        cases neg with
        | false => exact op_in_sign pins s σ H _ _ _ _ Q I rx ry ⟨c, z, rfl, rfl, k _ W H (Ext.refl _ _) ok hr (.bl _)⟩
        | true => exact op_notIn_sign pins s σ H _ _ _ _ Q I rx ry ⟨c, z, rfl, rfl, k _ W H (Ext.refl _ _) ok hr (.bl _)⟩
      · cases e1
    · cases e1
  · cases e1

/-! ### subscripts -/
def ixB (a i : D) : Option D := match a with
  | .tup ds => match i with
    | .int j => atI ds j
    | _ => none
  | .lst ds => match i with
    | .int j => atI ds j
    | _ => none
  | .str z => match i with
    | .int j => if z.length ≤ L then (atI z.cps.toList j).map fun c => .str ⟨#[c]⟩ else none
    | _ => none
  | .dct kvs => if dOk kvs i = true then dget kvs i else none
  | _ => none
def oIx (h : EH) (a i : D) : Option Sl := (ixB (der h a) i).map .pu
theorem ix_oIx (hu : X.A.units + 64 < cLine) : IxR X (rOp X oIx) := by
  intro value slice pins s σ H x y v u Q I rx ry q hs
  obtain ⟨W, h, dx, dy, d, ok, hr, wx, wy, e, k⟩ := q
  unfold oIx at e
  obtain ⟨r, e1, e2⟩ := Option.map_eq_some_iff.mp e
  subst e2
  have wx' := wx.x hr
  generalize der h dx = a at e1 wx'
  unfold ixB at e1
  split at e1
  · split at e1
    · obtain ⟨p, vs, rfl, p1, p2⟩ := wx'.tup
      cases wy.int
      obtain ⟨z, q1, q2⟩ := p2.at e1
      exact ix_tup value slice pins s σ H _ _ v u Q I rx ry ⟨_, _, _, _, rfl, rfl, p1, q1, k _ W H (Ext.refl _ _) ok hr q2⟩ hs
    · cases e1
  · split at e1
    · obtain ⟨p, vs, rfl, p1, p2⟩ := wx'.lst
      cases wy.int
      obtain ⟨z, q1, q2⟩ := p2.at e1
      exact ix_list value slice pins s σ H _ _ v u Q I rx ry ⟨_, _, _, _, rfl, rfl, p1, q1, k _ W H (Ext.refl _ _) ok hr q2⟩ hs
    · cases e1
  · split at e1
    · split at e1
      · rename_i hz
        obtain ⟨cc, e3, e4⟩ := Option.map_eq_some_iff.mp e1
        subst e4
        cases wx'.str
        cases wy.int
        exact ix_str value slice pins s σ H _ _ v u Q I rx ry ⟨_, _, _, rfl, rfl, hz, e3, k _ W H (Ext.refl _ _) ok hr (.str _)⟩ hs
      · cases e1
    · cases e1
  · split at e1
    · rename_i hm
      obtain ⟨p, es, ep, rfl, hH, nd, rd⟩ := wx'.dct
      cases rx
      obtain ⟨hsys, _, o, ho, hx, hdat⟩ := dict_raw I hH
      exact tail_any (T := "dict") ⟨o, ho, hx.1⟩ PySem.F.slot_dict_getitem.lookup (d_at hu I hH nd rd hm wy ry e1 fun v u s' I' r1 r2 => ⟨v, H, I', r2, k _ W H (Ext.refl _ _) ok hr r1⟩) hs
    · cases e1
  · cases e1
theorem sim_ix {ma mb : EM} (hu : X.A.units + 64 < cLine) (ha : SimW X a ma) (hb : SimW X b mb) (hs : PlainIx b) : SimF X (.Subscript a b pos) (mBin oIx ma mb) :=
  ⟨fun Wx tk => PE.imp (pe_ix (ix_oIx hu) (ha.run Wx tk) (hb.run Wx tk) hs) fun _ _ _ q => op_tg q⟩

/-! ### slices -/
def cutD {α : Type} (xs : List α) (lo hi : Option Int) : List α := (xs.drop (HT.sIx xs.length 0 lo)).take (HT.sIx xs.length xs.length hi - HT.sIx xs.length 0 lo)
def slB (a : D) (lo hi : Option Int) : Option Sl := match a with
  | .tup ds => some (.pu (.tup (cutD ds lo hi)))
  | .lst ds => some (.ow (.lst (cutD ds lo hi)))
  | .str z => if z.length ≤ L then some (.pu (.str (cutS z lo hi))) else none
  | _ => none
abbrev OM := Tu → EH → R (Option Int)
def rO : Rl (Option Int) (Option Int) := fun _ _ _ _ d v => d = v
theorem monoO : Mono rO := fun _ _ _ _ _ _ _ _ _ _ q => q
structure SimO (X : Cx) (e : Option Expr) (m : OM) : Prop where
  run : ∀ Wx, Takes X Wx → PO X e (Tg X rO m Wx)
def mNoPart : OM := fun _ h => .ok none h
def mPart (m : EM) : OM := fun τ h => (m τ h).bind fun d h1 => match d with
  | .int i => .ok (some i) h1
  | _ => .no
theorem PO.imp {o : Option Expr} {t t' : TO} (h : PO X o t) (hi : ∀ σ H Q, t' σ H Q → t σ H Q) : PO X o t' := ⟨fun pins s σ H Q I q => h.run pins s σ H Q I (hi _ _ _ q)⟩
theorem simo_none : SimO X none mNoPart := ⟨fun Wx _ => PO.imp po_none fun σ H Q ⟨W0, H0, W, τ, hp, s, g⟩ => g none W H (Ext.refl _ _) s.ok s.hr rfl⟩
theorem simo_some {m : EM} (h : SimW X e m) : SimO X (some e) (mPart m) := ⟨fun Wx tk => PO.imp (po_some (h.run Wx tk)) fun σ H Q ⟨W0, H0, W, τ, hp, s, g⟩ => ⟨W0, H0, W, τ, hp, s, Ko.step monoO g fun d h1 v W1 H1 _ e1 ok1 hr1 r1 g1 => by
  split at g1
  · rename_i i _
    exact ⟨i, r1.int, g1 (some i) W1 H1 (Ext.refl _ _) ok1 hr1 rfl⟩
  · exact g1.elim⟩⟩
def rSlM (X : Cx) : V → Option Int → Option Int → Hp → VK → Prop := fun x lo hi H Q => ∃ W h dx d, WOk W H ∧ HR X.w X.K X.mg W H h ∧ RW X.w X.K X.mg W H dx x ∧ slB (der h dx) lo hi = some d ∧
  ∀ v W' H', Ext W H W' H' → WOk W' H' → HR X.w X.K X.mg W' H' h → rF X.w X.K X.mg W H W' H' d v → Q v H'
theorem RVs.drop {w : World} {K : PySem.W.Frag} {mg : Str → Option Value} {W : Wd} {H : Hp} : ∀ {ds : List D} {vs : List V} (n : Nat), RVs w K mg W H ds vs → RVs w K mg W H (ds.drop n) (vs.drop n)
  | _, _, 0, r => r
  | _, _, _ + 1, .nil => .nil
  | _, _, n + 1, .cons _ t => RVs.drop n t
theorem RVs.take {w : World} {K : PySem.W.Frag} {mg : Str → Option Value} {W : Wd} {H : Hp} : ∀ {ds : List D} {vs : List V} (n : Nat), RVs w K mg W H ds vs → RVs w K mg W H (ds.take n) (vs.take n)
  | _, _, 0, _ => .nil
  | _, _, _ + 1, .nil => .nil
  | _, _, n + 1, .cons h t => .cons h (RVs.take n t)
theorem RVs.cut {w : World} {K : PySem.W.Frag} {mg : Str → Option Value} {W : Wd} {H : Hp} {ds : List D} {vs : List V} (r : RVs w K mg W H ds vs) (lo hi : Option Int) : RVs w K mg W H (cutD ds lo hi) (cutV vs lo hi) := by
  unfold cutD cutV
  rw [r.length]
  exact (r.drop _).take _
theorem sl_slM : SlR X (rSlM X) := by
  intro pins s σ H x v vl vu lo hi sl Q I rx hs pl pu q
  obtain ⟨W, h, dx, d, ok, hr, wx, e, k⟩ := q
  have wx' := wx.x hr
  generalize der h dx = a at e wx'
  unfold slB at e
  split at e
  · cases e
    obtain ⟨p, vs, rfl, p1, p2⟩ : ∃ p vs, x = .ref p ∧ PTu X.K W H p vs ∧ RVs X.w X.K X.mg W H _ vs := (wx'.pure fun _ o => nomatch o).tup
    have hc := p2.cut lo hi
    refine sl_tupP pins s σ H _ v vl vu lo hi sl Q I rx hs pl pu ⟨_, _, rfl, p1.sq, fun z => ?_, fun _ q oo hq hdn => ?_⟩
    · have e : cutV vs lo hi = vs := by
        unfold cutV
        rw [z.1, z.2, List.drop_zero, Nat.sub_zero, List.take_length]
      rw [e] at hc
      exact k _ W H (Ext.refl _ _) ok hr (.tup p1 hc)
    · have N := newP (w := X.w) (K := X.K) (mg := X.mg) (o := .frz oo (.tup (cutV vs lo hi))) ok hq
      exact k _ _ _ N.ext N.ok (N.hr _ hr) (.tup (.inl ⟨.inr rfl, oo, upd_same, hdn⟩) (hc.ext (N.ext.gr ok)))
  · cases e
    obtain ⟨p, vs, rfl, p1, p2⟩ := wx'.lst
    have hc := p2.cut lo hi
    refine sl_list pins s σ H _ v vl vu lo hi sl Q I rx hs pl pu ⟨_, _, rfl, p1, fun q hq => ?_⟩
    have N := newF (w := X.w) (K := X.K) (mg := X.mg) (o := .lst (cutV vs lo hi)) ok hq
    exact k _ _ _ N.ext N.ok (N.hr _ hr) ⟨q, rfl, hq, N.nm, N.np, .lst upd_same (hc.ext (N.ext.gr ok))⟩
  · split at e
    · rename_i hz
      cases e
      cases wx'.str
      exact sl_str pins s σ H _ v vl vu lo hi sl Q I rx hs pl pu ⟨_, rfl, hz, k _ W H (Ext.refl _ _) ok hr (.str _)⟩
    · cases e
  · cases e
def mSl (m : EM) (ml mh : OM) : FM := fun τ h => (m τ h).bind fun x h1 => (ml τ h1).bind fun lo h2 => (mh τ h2).bind fun hi h3 => lift (slB (der h3 x) lo hi) h3
theorem sim_sl {m : EM} {ml mh : OM} {lo hi : Option Expr} {p2 : Pos} (h : SimW X e m) (hl : SimO X lo ml) (hh : SimO X hi mh) : SimF X (.Subscript e (.Slice lo hi none p2) pos) (mSl m ml mh) :=
  ⟨fun Wx tk => PE.imp (pe_slice sl_slM (h.run Wx tk) (hl.run Wx tk) (hh.run Wx tk)) fun σ H Q ⟨W0, H0, W, τ, hp, s, g⟩ => ⟨W0, H0, W, τ, hp, s, Ko.step monoF g fun x h1 v W1 H1 _ e1 ok1 hr1 r1 g1 =>
    ⟨W0, H0, W1, τ, h1, s.step e1 ok1 hr1, Ko.step monoF g1 fun i h2 i' W2 H2 _ e2 ok2 hr2 r2 g2 => ⟨W0, H0, W2, τ, h2, (s.step e1 ok1 hr1).step e2 ok2 hr2, Ko.step monoF g2 fun j h3 j' W3 H3 _ e3 ok3 hr3 r3 g3 => by
      cases r2; cases r3
      unfold lift at g3
      split at g3
      · rename_i d q
        exact ⟨W3, h3, x, d, ok3, hr3, (r1.ext e2 ok1).ext e3 ok2, q, g3⟩
      · exact g3.elim⟩⟩⟩⟩

/-! ### displays -/
def mNil : AM := fun _ h => .ok [] h
def mCons (m : EM) (ms : AM) : AM := fun τ h => (m τ h).bind fun d h1 => (ms τ h1).bind fun ds h2 => .ok (d :: ds) h2
theorem simA_nil : SimA X [] mNil := ⟨fun Wx _ => PA.imp pa_nil fun σ H Q ⟨W0, H0, W, τ, hp, s, g⟩ => g [] W H (Ext.refl _ _) s.ok s.hr .nil⟩
theorem simAW_nil : SimAW X [] mNil := ⟨fun Wx _ => PA.imp pa_nil fun σ H Q ⟨W0, H0, W, τ, hp, s, g⟩ => g [] W H (Ext.refl _ _) s.ok s.hr .nil⟩
theorem simA_cons {es : List Expr} {m : EM} {ms : AM} (h : SimE X e m) (hs : SimA X es ms) (hst : starEach (e :: es) X.env = (false, eval e X.env) :: starEach es X.env) : SimA X (e :: es) (mCons m ms) :=
  ⟨fun Wx tk => PA.imp (pa_cons (h.run Wx tk) (hs.run Wx tk) hst) fun σ H Q ⟨W0, H0, W, τ, hp, s, g⟩ => ⟨W0, H0, W, τ, hp, s, Ko.step monoA g fun d h1 v W1 H1 _ e1 ok1 hr1 r1 g1 => ⟨W0, H0, W1, τ, h1, s.step e1 ok1 hr1,
    Ko.step monoA g1 fun ds h2 vs W2 H2 _ e2 ok2 hr2 r2 g2 => g2 _ W2 H2 (Ext.refl _ _) ok2 hr2 (.cons (RV.ext (e2.gr ok1) r1) r2)⟩⟩⟩
theorem simAW_cons {es : List Expr} {m : EM} {ms : AM} (h : SimW X e m) (hs : SimAW X es ms) (hst : starEach (e :: es) X.env = (false, eval e X.env) :: starEach es X.env) : SimAW X (e :: es) (mCons m ms) :=
  ⟨fun Wx tk => PA.imp (pa_cons (h.run Wx tk) (hs.run Wx tk) hst) fun σ H Q ⟨W0, H0, W, τ, hp, s, g⟩ => ⟨W0, H0, W, τ, hp, s, Ko.step monoAW g fun d h1 v W1 H1 _ e1 ok1 hr1 r1 g1 => ⟨W0, H0, W1, τ, h1, s.step e1 ok1 hr1,
    Ko.step monoAW g1 fun ds h2 vs W2 H2 _ e2 ok2 hr2 r2 g2 => g2 _ W2 H2 (Ext.refl _ _) ok2 hr2 (.cons (RW.ext e2 ok1 r1) r2)⟩⟩⟩
def mTup (ms : AM) : EM := fun τ h => (ms τ h).bind fun ds h1 => if ds.length ≤ 1000 then .ok (.tup ds) h1 else .no
def mLst (ms : AM) : FM := fun τ h => (ms τ h).bind fun ds h1 => if ds.length ≤ 1000 then .ok (.ow (.lst ds)) h1 else .no
theorem le1000 {n : Nat} (h : n ≤ 1000) : n ≤ sizeLine := Nat.le_trans h (by decide)
theorem sim_tup {es : List Expr} {ms : AM} {j} (h : SimA X es ms) : SimE X (.Tuple es j pos) (mTup ms) :=
  ⟨fun Wx tk => PE.imp (pe_tupP (h.run Wx tk)) fun σ H Q ⟨W0, H0, W, τ, hp, s, g⟩ => ⟨W0, H0, W, τ, hp, s, Ko.step monoS g fun ds h1 vs W1 H1 _ e1 ok1 hr1 r1 g1 => by
    split at g1
    · rename_i hl
      refine ⟨le1000 (by rw [← RVs.length r1]; exact hl), fun p oo hq hdn => ?_⟩
      have N := newP (w := X.w) (K := X.K) (mg := X.mg) (o := .frz oo (.tup vs)) ok1 hq
      exact g1 _ _ _ N.ext N.ok (N.hr _ hr1) (.tup (.inl ⟨.inr rfl, oo, upd_same, hdn⟩) (RVs.ext (N.ext.gr ok1) r1))
    · exact g1.elim⟩⟩
theorem sim_lst {es : List Expr} {ms : AM} (h : SimA X es ms) : SimF X (.List es pos) (mLst ms) :=
  ⟨fun Wx tk => PE.imp (pe_lst (h.run Wx tk)) fun σ H Q ⟨W0, H0, W, τ, hp, s, g⟩ => ⟨W0, H0, W, τ, hp, s, Ko.step monoF g fun ds h1 vs W1 H1 _ e1 ok1 hr1 r1 g1 => by
    split at g1
    · rename_i hl
      refine ⟨le1000 (by rw [← RVs.length r1]; exact hl), fun p hq => ?_⟩
      have N := newF (w := X.w) (K := X.K) (mg := X.mg) (o := .lst vs) ok1 hq
      exact g1 _ _ _ N.ext N.ok (N.hr _ hr1) ⟨p, rfl, hq, N.nm, N.np, .lst upd_same (RVs.ext (N.ext.gr ok1) r1)⟩
    · exact g1.elim⟩⟩
/-- {} -/
def mDct0 : FM := fun _ h => .ok (.ow (.dct [])) h
theorem knd_nil : KNd [] := ⟨by simp, .inl rfl⟩
theorem sim_dct0 : SimF X (.Dict [] [] pos) mDct0 := by
  refine ⟨fun Wx tk => ⟨fun pins s σ H Q I ⟨W0, H0, W, τ, hp, sr, g⟩ => wpAny_Dict_empty ?_⟩⟩
  have hn : H s.heap.objs.size = none := I.hok.fresh (Nat.le_refl _)
  have N := newF (w := X.w) (K := X.K) (mg := X.mg) (o := dO s.heap.objs.size [] 0) sr.ok hn
  exact ⟨.ref s.heap.objs.size, _, dict_new I s.toks, rfl, g _ _ _ N.ext N.ok (N.hr _ sr.hr) ⟨_, rfl, hn, N.nm, N.np, .dct upd_same knd_nil .nil⟩⟩

/-! ### tests -/
def truB (d : D) : Option Bool := match d with
  | .non => some false
  | .bl b => some b
  | .int i => some (i != 0)
  | .str x => if x.length ≤ L then some ((x.length : Int) != 0) else none
  | .tup ds => some (!ds.isEmpty)
  | .lst ds => some (!ds.isEmpty)
  | _ => none
def mTru (m : EM) : BM := fun τ h => (m τ h).bind fun d h1 => lift (truB (der h1 d)) h1
theorem RVs.isEmpty {w : World} {K : PySem.W.Frag} {mg : Str → Option Value} {W : Wd} {H : Hp} {ds : List D} {vs : List V} (r : RVs w K mg W H ds vs) : ds.isEmpty = vs.isEmpty := by
  cases r <;> rfl
theorem tru_of {w : World} {K : PySem.W.Frag} {mg : Str → Option Value} {W : Wd} {H : Hp} {d : D} {v : V} {b : Bool} (r : RX w K mg W H d v) (h : truB d = some b) : TruV K v H b := by
  unfold truB at h
  split at h
  · cases h; cases r.non; rfl
  · cases h; cases r.bl; rfl
  · cases h; cases r.int; rfl
  · split at h
    · rename_i hz
      cases h; cases r.str
      exact ⟨hz, rfl⟩
    · cases h
  · cases h
    obtain ⟨p, vs, rfl, p1, p2⟩ := r.tup
    exact .inr (.inl ⟨vs, p1, by rw [p2.isEmpty]⟩)
  · cases h
    obtain ⟨p, vs, rfl, p1, p2⟩ := r.lst
    exact .inl ⟨vs, p1, by rw [p2.isEmpty]⟩
  · cases h
/-- an expression whose test is its value's truth -/
def PlainT (X : Cx) (e : Expr) : Prop := ∀ whole, isTrue e X.env whole = (do let v ← whole; standAt e.pos; holding [v] (truthy v))
theorem simT_plain {m : EM} (h : SimW X e m) (he : PlainT X e) : SimT X e (mTru m) :=
  ⟨fun Wx tk => PT.imp (pt_truth (h.run Wx tk) he) fun σ H Q ⟨W0, H0, W, τ, hp, s, g⟩ => ⟨W0, H0, W, τ, hp, s, Ko.step monoB g fun d h1 v W1 H1 _ e1 ok1 hr1 r1 g1 => by
    unfold lift at g1
    split at g1
    · rename_i b q
      exact ⟨b, tru_of (RW.x r1 hr1) q, g1 b W1 H1 (Ext.refl _ _) ok1 hr1 rfl⟩
    · exact g1.elim⟩⟩
/-- a comparison as a test -/
def mTst (m : FM) : BM := fun τ h => (m τ h).bind fun d h1 => match d with
  | .pu (.bl b) => .ok b h1
  | _ => .no
theorem simT_cmp {op : CmpOp} {g : EH → D → D → Option Sl} {ma mb : EM} (ho : OpR X (compareOp op) (rOp X g)) (ha : SimW X a ma) (hb : SimW X b mb) (hm : behindInMarks op b = false) : SimT X (.Compare a [op] [b] pos) (mTst (mBin g ma mb)) :=
  ⟨fun Wx tk => PT.imp (pt_cmpR ho (ha.run Wx tk) (hb.run Wx tk) hm) fun σ H Q ⟨W0, H0, W, τ, hp, s, g⟩ => op_tg ⟨W0, H0, W, τ, hp, s, Ko.step monoB g fun d h1 v W1 H1 _ e1 ok1 hr1 r1 g1 => by
    split at g1
    · rename_i k _
      cases r1
      exact ⟨k, rfl, g1 k W1 H1 (Ext.refl _ _) ok1 hr1 rfl⟩
    · exact g1.elim⟩⟩
def mNotT (m : BM) : BM := fun τ h => (m τ h).bind fun b h1 => .ok (!b) h1
theorem simT_not {m : BM} (h : SimT X a m) : SimT X (.UnaryOp .Not a pos) (mNotT m) :=
  ⟨fun Wx tk => PT.imp (pt_not (h.run Wx tk)) fun σ H Q ⟨W0, H0, W, τ, hp, s, g⟩ => ⟨W0, H0, W, τ, hp, s, Ko.step monoB g fun d h1 v W1 H1 _ e1 ok1 hr1 r1 g1 => by
    cases r1
    exact g1 _ W1 H1 (Ext.refl _ _) ok1 hr1 rfl⟩⟩
structure SimPW (X : Cx) (e : Expr) (m : BM) : Prop where
  run : ∀ Wx, Takes X Wx → PW X e (Tg X rB m Wx)
theorem SimPW.t {m : BM} (h : SimPW X e m) : SimT X e m := ⟨fun Wx tk => (h.run Wx tk).pt⟩
def mAndT (m n : BM) : BM := fun τ h => (m τ h).bind fun b h1 => if b = true then n τ h1 else .ok false h1
def mOrT (m n : BM) : BM := fun τ h => (m τ h).bind fun b h1 => if b = true then .ok true h1 else n τ h1
theorem simPW_and1 {m : BM} (h : SimT X a m) : SimPW X (.BoolOp .And [a] pos) m := ⟨fun Wx tk => pw_and1 (h.run Wx tk)⟩
theorem simPW_or1 {m : BM} (h : SimT X a m) : SimPW X (.BoolOp .Or [a] pos) m := ⟨fun Wx tk => pw_or1 (h.run Wx tk)⟩
theorem simPW_and {rest : List Expr} {m n : BM} (h : SimT X a m) (hb : SimPW X (.BoolOp .And (b :: rest) pos) n) : SimPW X (.BoolOp .And (a :: b :: rest) pos) (mAndT m n) :=
  ⟨fun Wx tk => PW.imp (pw_and (h.run Wx tk) (hb.run Wx tk)) fun σ H Q ⟨W0, H0, W, τ, hp, s, g⟩ => ⟨W0, H0, W, τ, hp, s, Ko.step monoB g fun d h1 v W1 H1 _ e1 ok1 hr1 r1 g1 => by
    cases r1
    split at g1
    · rename_i hd
      rw [if_pos hd]
      exact ⟨W0, H0, W1, τ, h1, s.step e1 ok1 hr1, g1⟩
    · rename_i hd
      rw [if_neg hd]
      exact g1 false W1 H1 (Ext.refl _ _) ok1 hr1 rfl⟩⟩
theorem simPW_or {rest : List Expr} {m n : BM} (h : SimT X a m) (hb : SimPW X (.BoolOp .Or (b :: rest) pos) n) : SimPW X (.BoolOp .Or (a :: b :: rest) pos) (mOrT m n) :=
  ⟨fun Wx tk => PW.imp (pw_or (h.run Wx tk) (hb.run Wx tk)) fun σ H Q ⟨W0, H0, W, τ, hp, s, g⟩ => ⟨W0, H0, W, τ, hp, s, Ko.step monoB g fun d h1 v W1 H1 _ e1 ok1 hr1 r1 g1 => by
    cases r1
    split at g1
    · rename_i hd
      rw [if_pos hd]
      exact g1 true W1 H1 (Ext.refl _ _) ok1 hr1 rfl
    · rename_i hd
      rw [if_neg hd]
      exact ⟨W0, H0, W1, τ, h1, s.step e1 ok1 hr1, g1⟩⟩⟩
/-! ### and, or, not as values (of bools, but for the last) -/
def mAndV (m n : EM) : EM := fun τ h => (m τ h).bind fun d h1 => match d with
  | .bl true => n τ h1
  | .bl false => .ok (.bl false) h1
  | _ => .no
def mOrV (m n : EM) : EM := fun τ h => (m τ h).bind fun d h1 => match d with
  | .bl false => n τ h1
  | .bl true => .ok (.bl true) h1
  | _ => .no
def mNotV (m : EM) : EM := fun τ h => (m τ h).bind fun d h1 => match d with
  | .bl b => .ok (.bl (!b)) h1
  | _ => .no
theorem sim_one {op} {m : EM} (h : SimE X a m) : SimE X (.BoolOp op [a] pos) m := ⟨fun Wx tk => pe_one (h.run Wx tk)⟩
theorem sim_and {rest : List Expr} {m n : EM} (h : SimE X a m) (hb : SimE X (.BoolOp .And (b :: rest) pos) n) : SimE X (.BoolOp .And (a :: b :: rest) pos) (mAndV m n) :=
  ⟨fun Wx tk => PE.imp (pe_and (h.run Wx tk) (hb.run Wx tk)) fun σ H Q ⟨W0, H0, W, τ, hp, s, g⟩ => ⟨W0, H0, W, τ, hp, s, Ko.step monoS g fun d h1 v W1 H1 _ e1 ok1 hr1 r1 g1 => by
    split at g1
    · cases RW.bl (.inl r1)
      exact ⟨true, rfl, iteT ⟨W0, H0, W1, τ, h1, s.step e1 ok1 hr1, g1⟩⟩
    · cases RW.bl (.inl r1)
      exact ⟨false, rfl, iteF (g1 _ W1 H1 (Ext.refl _ _) ok1 hr1 (.bl _))⟩
    · exact g1.elim⟩⟩
theorem sim_or {rest : List Expr} {m n : EM} (h : SimE X a m) (hb : SimE X (.BoolOp .Or (b :: rest) pos) n) : SimE X (.BoolOp .Or (a :: b :: rest) pos) (mOrV m n) :=
  ⟨fun Wx tk => PE.imp (pe_or (h.run Wx tk) (hb.run Wx tk)) fun σ H Q ⟨W0, H0, W, τ, hp, s, g⟩ => ⟨W0, H0, W, τ, hp, s, Ko.step monoS g fun d h1 v W1 H1 _ e1 ok1 hr1 r1 g1 => by
    split at g1
    · cases RW.bl (.inl r1)
      exact ⟨false, rfl, iteF ⟨W0, H0, W1, τ, h1, s.step e1 ok1 hr1, g1⟩⟩
    · cases RW.bl (.inl r1)
      exact ⟨true, rfl, iteT (g1 _ W1 H1 (Ext.refl _ _) ok1 hr1 (.bl _))⟩
    · exact g1.elim⟩⟩
theorem sim_not {m : EM} (h : SimE X a m) : SimE X (.UnaryOp .Not a pos) (mNotV m) :=
  ⟨fun Wx tk => PE.imp (pe_not (h.run Wx tk)) fun σ H Q ⟨W0, H0, W, τ, hp, s, g⟩ => ⟨W0, H0, W, τ, hp, s, Ko.step monoS g fun d h1 v W1 H1 _ e1 ok1 hr1 r1 g1 => by
    split at g1
    · cases RW.bl (.inl r1)
      exact ⟨_, rfl, g1 _ W1 H1 (Ext.refl _ _) ok1 hr1 (.bl _)⟩
    · exact g1.elim⟩⟩
def mNeg (m : EM) : EM := fun τ h => (m τ h).bind fun d h1 => match d with
  | .int b => .ok (.int (-b)) h1
  | _ => .no
theorem sim_neg {m : EM} (h : SimE X a m) : SimE X (.UnaryOp .USub a pos) (mNeg m) :=
  ⟨fun Wx tk => PE.imp (pe_un un_neg (h.run Wx tk)) fun σ H Q ⟨W0, H0, W, τ, hp, s, g⟩ => ⟨W0, H0, W, τ, hp, s, Ko.step monoS g fun d h1 v W1 H1 _ e1 ok1 hr1 r1 g1 => by
    split at g1
    · cases RW.int (.inl r1)
      exact ⟨_, rfl, g1 _ W1 H1 (Ext.refl _ _) ok1 hr1 (.int _)⟩
    · exact g1.elim⟩⟩
def mIfE (c : BM) (m n : EM) : EM := fun τ h => (c τ h).bind fun b h1 => if b = true then m τ h1 else n τ h1
theorem sim_if {mc : BM} {m n : EM} (hc : SimT X c mc) (h : SimE X a m) (hb : SimE X b n) : SimE X (.IfExp c a b pos) (mIfE mc m n) :=
  ⟨fun Wx tk => PE.imp (pe_ifExp (hc.run Wx tk) (h.run Wx tk) (hb.run Wx tk)) fun σ H Q ⟨W0, H0, W, τ, hp, s, g⟩ => ⟨W0, H0, W, τ, hp, s, Ko.step monoS g fun d h1 v W1 H1 _ e1 ok1 hr1 r1 g1 => by
    cases r1
    split at g1
    · rename_i hd
      rw [if_pos hd]
      exact ⟨W0, H0, W1, τ, h1, s.step e1 ok1 hr1, g1⟩
    · rename_i hd
      rw [if_neg hd]
      exact ⟨W0, H0, W1, τ, h1, s.step e1 ok1 hr1, g1⟩⟩⟩
/-- a < b < c -/
def mChain (f g : EH → D → D → Option Sl) (ma mb mc : EM) : EM := fun τ h => (ma τ h).bind fun x h1 => (mb τ h1).bind fun y h2 => match f h2 x y with
  | some (.pu (.bl true)) => (mc τ h2).bind fun z h3 => (lift (g h3 y z) h3).bind Sl.val
  | some (.pu (.bl false)) => .ok (.bl false) h2
  | _ => .no
theorem sim_chain {op op' : CmpOp} {f g : EH → D → D → Option Sl} {ma mb mc : EM} (ho : OpR X (compareOp op) (rOp X f)) (ho' : OpR X (compareOp op') (rOp X g)) (ha : SimE X a ma) (hb : SimE X b mb) (hc : SimE X c mc)
    (hm : lastMarks [op, op'] [b, c] = false) : SimE X (.Compare a [op, op'] [b, c] pos) (mChain f g ma mb mc) :=
  ⟨fun Wx tk => PE.imp (pe_chain ho ho' (ha.run Wx tk) (hb.run Wx tk) (hc.run Wx tk) hm) fun σ H Q ⟨W0, H0, W, τ, hp, s, g⟩ => ⟨W0, H0, W, τ, hp, s, Ko.step monoS g fun x h1 v W1 H1 _ e1 ok1 hr1 r1 g1 =>
    ⟨W0, H0, W1, τ, h1, s.step e1 ok1 hr1, Ko.step monoS g1 fun y h2 u W2 H2 _ e2 ok2 hr2 r2 g2 => by
      have s2 := (s.step e1 ok1 hr1).step e2 ok2 hr2
      have r1' : RV X.w X.K X.mg W2 H2 x v := RV.ext (e2.gr ok1) r1
      split at g2
      · rename_i q
        refine ⟨W2, h2, x, y, _, ok2, hr2, .inl r1', .inl r2, q, fun z W3 H3 e3 ok3 hr3 r3 => ?_⟩
        cases RW.bl (.inl r3)
        refine ⟨true, rfl, iteT ⟨W0, H0, W3, τ, h2, s2.step e3 ok3 hr3, ?_⟩⟩
        have g3 := Ko.at monoS e3 ok3 g2
        refine Ko.step monoS g3 fun zz h4 v4 W4 H4 _ e4 ok4 hr4 r4 g4 => ?_
        unfold lift at g4
        split at g4
        · rename_i d4 q4
          refine ⟨W4, h4, y, zz, d4, ok4, hr4, .inl (RV.ext (e4.gr ok3) (RV.ext (e3.gr ok2) r2)), .inl r4, q4, fun v5 W5 H5 e5 ok5 hr5 r5 => ?_⟩
          have : Ko X.w X.K X.mg (rF X.w X.K X.mg) W4 H4 _ (R.ok d4 h4) Q := Ko.ofF g4
          exact this v5 W5 H5 e5 ok5 hr5 r5
        · exact g4.elim
      · rename_i q
        refine ⟨W2, h2, x, y, _, ok2, hr2, .inl r1', .inl r2, q, fun z W3 H3 e3 ok3 hr3 r3 => ?_⟩
        cases RW.bl (.inl r3)
        exact ⟨false, rfl, iteF (g2 _ W3 H3 e3 ok3 hr3 (.bl _))⟩
      · exact g2.elim⟩⟩⟩
end
end Mp

set_option Elab.async false
set_option linter.all false
set_option maxRecDepth 100000
/-! Mp: what is walked. -/
namespace Mp
open PySem PySem.Spec L2
open PyProof.Rows hiding St

abbrev AfR := Wd → Hp → Wd → Hp → Prop
structure AfOk (Af : AfR) : Prop where
  gr : ∀ W H W' H', WOk W H → Af W H W' H' → Gr W H W' H'
  rf : ∀ W H, Af W H W H
theorem Gr.refl (W : Wd) (H : Hp) : Gr W H W H := ⟨⟨[], by simp⟩, fun _ h => h, fun _ _ h _ => h⟩
theorem Gr.trans {W W1 W2 : Wd} {H H1 H2 : Hp} (e : Gr W H W1 H1) (f : Gr W1 H1 W2 H2) : Gr W H W2 H2 where
  mu := by
    obtain ⟨t, ht⟩ := e.mu
    obtain ⟨u, hu⟩ := f.mu
    exact ⟨t ++ u, by rw [hu, ht, List.append_assoc]⟩
  pp := fun a h => f.pp a (e.pp a h)
  keep := fun a o h hm => f.keep a o (e.keep a o h hm) (e.pp a hm)
theorem afG : AfOk Gr := ⟨fun _ _ _ _ _ h => h, Gr.refl⟩
theorem afE : AfOk Ext := ⟨fun _ _ _ _ ok h => h.gr ok, Ext.refl⟩

section
variable (w : World) (K : PySem.W.Frag) (mg : Str → Option Value)
/-- a thing that is walked is as it was -/
def isAs (src cont : D) (h : EH) : Bool := decide (der h src = cont)
structure ItOk (Af : AfR) (J : It) (chk : EH → Bool) (ds : List D) (W : Wd) (H : Hp) : Prop where
  go : ∀ (W' : Wd) (H' : Hp) (h' : EH) (i : Nat) (d : D), Af W H W' H' → WOk W' H' → HR w K mg W' H' h' → chk h' = true → ds[i]? = some d → J.go i H' ∧ ∀ x H'', J.yld i H' x H'' →
    ∃ W'', Ext W' H' W'' H'' ∧ WOk W'' H'' ∧ HR w K mg W'' H'' h' ∧ RV w K mg W'' H'' d x
  stop : ∀ (W' : Wd) (H' : Hp) (h' : EH) (i : Nat), Af W H W' H' → WOk W' H' → HR w K mg W' H' h' → chk h' = true → ds.length ≤ i → J.stop i H'
abbrev Src := (EH → Bool) × List D
def rI (Af : AfR) : Rl Src It := fun _ _ W H s J => ItOk w K mg Af J s.1 s.2 W H
/-- what is held of an operand that is walked -/
structure Liv (Af : AfR) (W : Wd) (H : Hp) (d : D) (v : V) : Prop where
  rw : RW w K mg W H d v
  lv : ∀ (cont : D) (W' : Wd) (H' : Hp) (h' : EH), Af W H W' H' → WOk W' H' → HR w K mg W' H' h' → der h' d = cont → RX w K mg W' H' cont v
  dc : ∀ kvs, d = .dct kvs → ∃ a es ep, v = .ref a ∧ KNd kvs ∧ ∀ W' H', Af W H W' H' → H' a = some (dO a es ep) ∧ RVd w K mg W' H' kvs es
def rL (Af : AfR) : Rl D V := fun _ _ W H d v => Liv w K mg Af W H d v
end
section
variable {w : World} {K : PySem.W.Frag} {mg : Str → Option Value} {Af : AfR} {W : Wd} {H : Hp}
theorem monoI : Mono (rI w K mg Af) := fun _ _ _ _ _ _ _ _ _ _ q => q
theorem monoL : Mono (rL w K mg Af) := fun _ _ _ _ _ _ _ _ _ _ q => q
theorem liv_s (af : AfOk Af) (ok : WOk W H) {d : D} {v : V} (r : RV w K mg W H d v) : Liv w K mg Af W H d v where
  rw := .inl r
  lv := fun cont W' H' h' e ok' hr' hc => by
    rw [← hc]
    exact RW.x (.inl (r.ext (af.gr _ _ _ _ ok e))) hr'
  dc := fun kvs hd => by
    subst hd
    cases r with
    | dct p q n r => exact ⟨_, _, _, rfl, n, fun W' H' e => ⟨(af.gr _ _ _ _ ok e).keep _ _ q p, r.ext (af.gr _ _ _ _ ok e)⟩⟩
theorem liv_w (ok : WOk W H) {d : D} {v : V} (r : RW w K mg W H d v) : Liv w K mg Ext W H d v where
  rw := r
  lv := fun cont W' H' h' e ok' hr' hc => by
    rw [← hc]
    exact RW.x (r.ext e ok) hr'
  dc := fun kvs hd => by
    subst hd
    rcases r with r | ⟨a, rfl, hm, o⟩
    · exact (liv_s afE ok r).dc kvs rfl
    · cases o with
      | dct q n r => exact ⟨_, _, _, rfl, n, fun W' H' e => ⟨e.keep _ _ q hm, r.ext (e.gr ok)⟩⟩
/-! the walks -/
theorem itok_list {src : D} {ds : List D} {a : Addr} (l : Liv w K mg Af W H src (.ref a)) : ItOk w K mg Af (Itl K a) (isAs src (.lst ds)) ds W H where
  go := fun W' H' h' i d e ok hr hc hi => by
    obtain ⟨b, vs, hb, q, r⟩ := (l.lv _ W' H' h' e ok hr (of_decide_eq_true hc)).lst
    cases hb
    obtain ⟨v, q1, q2⟩ := r.get hi
    exact ⟨⟨vs, v, q, q1⟩, fun x H'' ⟨e1, e2⟩ => by
      subst e1
      have := e2 vs (q)
      rw [q1] at this
      cases this
      exact ⟨W', Ext.refl _ _, ok, hr, q2⟩⟩
  stop := fun W' H' h' i e ok hr hc hi => by
    obtain ⟨b, vs, hb, q, r⟩ := (l.lv _ W' H' h' e ok hr (of_decide_eq_true hc)).lst
    cases hb
    exact ⟨vs, q, by rw [← r.length]; exact hi⟩
theorem itok_tup {src : D} {ds : List D} {a : Addr} (l : Liv w K mg Af W H src (.ref a)) : ItOk w K mg Af (Itt K a) (isAs src (.tup ds)) ds W H where
  go := fun W' H' h' i d e ok hr hc hi => by
    obtain ⟨b, vs, hb, q, r⟩ := (l.lv _ W' H' h' e ok hr (of_decide_eq_true hc)).tup
    cases hb
    obtain ⟨v, q1, q2⟩ := r.get hi
    exact ⟨⟨vs, v, q, q1⟩, fun x H'' ⟨e1, e2⟩ => by
      subst e1
      have := e2 vs q
      rw [q1] at this
      cases this
      exact ⟨W', Ext.refl _ _, ok, hr, q2⟩⟩
  stop := fun W' H' h' i e ok hr hc hi => by
    obtain ⟨b, vs, hb, q, r⟩ := (l.lv _ W' H' h' e ok hr (of_decide_eq_true hc)).tup
    cases hb
    exact ⟨vs, q, by rw [← r.length]; exact hi⟩
def chars (x : Str) : List D := x.cps.toList.map fun c => .str ⟨#[c]⟩
theorem itok_str {chk : EH → Bool} {x : Str} : ItOk w K mg Af (Its x) chk (chars x) W H where
  go := fun W' H' h' i d e ok hr hc hi => by
    unfold chars at hi
    rw [List.getElem?_map, Option.map_eq_some_iff] at hi
    obtain ⟨c, h1, h2⟩ := hi
    rw [Array.getElem?_toList] at h1
    refine ⟨?_, fun y H'' hy => ?_⟩
    · show i < x.cps.size
      exact (Array.getElem?_eq_some_iff.mp h1).1
    · obtain ⟨e1, c', e2, e3⟩ := hy
      subst e1
      rw [h1] at e2
      cases e2
      rw [← h2, e3]
      exact ⟨W', Ext.refl _ _, ok, hr, .str _⟩
  stop := fun W' H' h' i e ok hr hc hi => by
    show x.cps.size ≤ i
    unfold chars at hi
    rw [List.length_map, Array.length_toList] at hi
    exact hi
def rangeD (lo : Int) (n : Nat) : List D := (List.range n).map fun i => .int (lo + (i : Nat))
theorem itok_range {chk : EH → Bool} {lo : Int} {n : Nat} : ItOk w K mg Af (Itr lo n) chk (rangeD lo n) W H where
  go := fun W' H' h' i d e ok hr hc hi => by
    unfold rangeD at hi
    rw [List.getElem?_map, Option.map_eq_some_iff] at hi
    obtain ⟨c, h1, h2⟩ := hi
    obtain ⟨h3, h4⟩ := List.getElem?_eq_some_iff.mp h1
    rw [List.length_range] at h3
    rw [List.getElem_range] at h4
    subst h4
    refine ⟨h3, fun y H'' hy => ?_⟩
    obtain ⟨e1, e2⟩ := hy
    subst e1; subst e2; subst h2
    exact ⟨W', Ext.refl _ _, ok, hr, .int _⟩
  stop := fun W' H' h' i e ok hr hc hi => by
    unfold rangeD at hi
    rw [List.length_map, List.length_range] at hi
    exact hi
def rangeC (lo c : Int) (n : Nat) : List D := (List.range n).map fun i => .int (lo + (i : Nat) * c)
theorem itok_rangeC {chk : EH → Bool} {lo c : Int} {n : Nat} : ItOk w K mg Af (Itc lo c n) chk (rangeC lo c n) W H where
  go := fun W' H' h' i d e ok hr hc hi => by
    unfold rangeC at hi
    rw [List.getElem?_map, Option.map_eq_some_iff] at hi
    obtain ⟨c, h1, h2⟩ := hi
    obtain ⟨h3, h4⟩ := List.getElem?_eq_some_iff.mp h1
    rw [List.length_range] at h3
    rw [List.getElem_range] at h4
    subst h4
    refine ⟨h3, fun y H'' hy => ?_⟩
    obtain ⟨e1, e2⟩ := hy
    subst e1; subst e2; subst h2
    exact ⟨W', Ext.refl _ _, ok, hr, .int _⟩
  stop := fun W' H' h' i e ok hr hc hi => by
    unfold rangeC at hi
    rw [List.length_map, List.length_range] at hi
    exact hi
end

/-! ### a dict's keys, values, pairs, by the dict's own entries -/
/-- the dict at a as it stands; at turn i the i-th of ks -/
def Jk (a : Addr) (es : List Ent) (ep : Nat) (ks : List V) : It := ⟨fun i H => H a = some (dO a es ep) ∧ i < es.length, fun i H x H' => H' = H ∧ ks[i]? = some x, fun i H => H a = some (dO a es ep) ∧ es.length ≤ i⟩
def Jp (a : Addr) (es : List Ent) (ep : Nat) (ks vs : List V) : It := ⟨fun i H => H a = some (dO a es ep) ∧ i < es.length, fun i H v H' => ∃ T o x y, v = .ref T ∧ H T = none ∧ o.dict = none ∧ H' = upd H T (.frz o (.tup [x, y])) ∧ ks[i]? = some x ∧ vs[i]? = some y, fun i H => H a = some (dO a es ep) ∧ es.length ≤ i⟩
section
variable {P : Program} {w : World} {K : PySem.W.Frag} {tg : Expr} {a : Addr} {es : List Ent} {ep : Nat} {ks vs : List V}
theorem raw_of {X : Cx} {pins : List (Addr × Obj)} {s : Shared} {σ : L2.St} {H : Hp} (I : Inv X pins σ H s) (hH : H a = some (dO a es ep)) : s.heap.DictRaw a es.toArray ep := (dict_raw I hH).2.2
theorem turn_jk (it : Addr) (hk : ∀ (i : Nat) (e : Ent), es[i]? = some e → ∃ x, ks[i]? = some x ∧ RelV x e.key) : Turn P w K tg (Jk a es ep ks) [it] it (fun i h => h.IsKeyIter it a i es.length ep) where
  mem := by simp
  obj := fun i h st b hb => by
    have e : b = it := by simpa using hb
    subst e
    obtain ⟨oi, e, c, dd⟩ := st
    exact ⟨oi, e, fun v z => by rw [dd] at z; cases z⟩
  keep := fun i h h' st k => st.at fun oi e => k it (by simp) oi e
  item := by
    intro X hP hw hK hc i pins s σ H E I hf st hg
    subst hP hw hK
    obtain ⟨hd, hi⟩ := hg
    obtain ⟨f0, f1, f2, f3, f4, f5⟩ := hf it (by simp)
    obtain ⟨x, hx, rx⟩ := hk i es[i] (List.getElem?_eq_getElem hi)
    have st' : s.heap.IsKeyIter it a i es.toArray.size ep := by simpa using st
    refine wpAny_pyNext_keys_item_raw st' (raw_of I hd) (by simpa using hi) fun h' st2 sb => ?_
    have I1 : Inv X pins σ H { s with heap := h' } := I.turned (t' := s.toks) (fun b ob hb e => (sb.2 b hb).trans e) f0 f1 f3 f4 f5
    obtain ⟨oi, e, c, dd⟩ := id st2
    exact ⟨_, rfl, go_of (s := { s with heap := h' }) e c dd (by decide) ⟨x, H, I1, by simpa using rx, ⟨rfl, hx⟩, by simpa using st2, fun b hb => (hf b hb).1⟩⟩
  done := by
    intro X hP hw hK hc i pins s σ H E I hf st hg
    subst hP hw hK
    obtain ⟨hd, hi⟩ := hg
    obtain ⟨f0, f1, f2, f3, f4, f5⟩ := hf it (by simp)
    have st' : s.heap.IsKeyIter it a i es.toArray.size ep := by simpa using st
    exact wpAny_pyNext_keys_end_raw (I.ok.hd hc) st' (raw_of I hd) (by simpa using hi) fun h' eb => ⟨rfl, I.turned (t' := s.toks) (fun b ob hb e => eb b ob hb e) f0 f1 f3 f4 f5⟩
  self := fun A i s Q E st h => by
    refine wpAny_pyIter_slot st.typeIs F.slot_dict_keyiterator_iter (wpAny_call_entry F.slot_dict_keyiterator_iter st.typeIs F.entry_dict_keyiterator_iter ?_ (F.args_dict_keyiterator_iter_1 _))
    show wpAny _ _ (ret (.ref it)) _ _ s
    exact wpAny_pure ⟨_, rfl, "dict_keyiterator", _, st.typeIs, F.slot_dict_keyiterator_next.lookup, h⟩
theorem turn_jv (it : Addr) (hk : ∀ (i : Nat) (e : Ent), es[i]? = some e → ∃ x, ks[i]? = some x ∧ RelV x e.val) : Turn P w K tg (Jk a es ep ks) [it] it (fun i h => h.IsValIter it a i es.length ep) where
  mem := by simp
  obj := fun i h st b hb => by
    have e : b = it := by simpa using hb
    subst e
    obtain ⟨oi, e, c, dd⟩ := st
    exact ⟨oi, e, fun v z => by rw [dd] at z; cases z⟩
  keep := fun i h h' st k => st.at fun oi e => k it (by simp) oi e
  item := by
    intro X hP hw hK hc i pins s σ H E I hf st hg
    subst hP hw hK
    obtain ⟨hd, hi⟩ := hg
    obtain ⟨f0, f1, f2, f3, f4, f5⟩ := hf it (by simp)
    obtain ⟨x, hx, rx⟩ := hk i es[i] (List.getElem?_eq_getElem hi)
    have st' : s.heap.IsValIter it a i es.toArray.size ep := by simpa using st
    refine wpAny_pyNext_values_item_raw st' (raw_of I hd) (by simpa using hi) fun h' st2 sb => ?_
    have I1 : Inv X pins σ H { s with heap := h' } := I.turned (t' := s.toks) (fun b ob hb e => (sb.2 b hb).trans e) f0 f1 f3 f4 f5
    obtain ⟨oi, e, c, dd⟩ := id st2
    exact ⟨_, rfl, go_of (s := { s with heap := h' }) e c dd (by decide) ⟨x, H, I1, by simpa using rx, ⟨rfl, hx⟩, by simpa using st2, fun b hb => (hf b hb).1⟩⟩
  done := by
    intro X hP hw hK hc i pins s σ H E I hf st hg
    subst hP hw hK
    obtain ⟨hd, hi⟩ := hg
    obtain ⟨f0, f1, f2, f3, f4, f5⟩ := hf it (by simp)
    have st' : s.heap.IsValIter it a i es.toArray.size ep := by simpa using st
    exact wpAny_pyNext_values_end_raw (I.ok.hd hc) st' (raw_of I hd) (by simpa using hi) fun h' eb => ⟨rfl, I.turned (t' := s.toks) (fun b ob hb e => eb b ob hb e) f0 f1 f3 f4 f5⟩
  self := fun A i s Q E st h => wpAny_pyIter_valiter st h
theorem pair_ok {P : Program} {w : World} {H' : Hp} {h : Heap} {T : Addr} {u v : Value} {x y : V} (e : h.get? T = some { cls := .type "tuple", data := .seq #[u, v] }) (rx : RelV x u) (ry : RelV y v) : ObjOk P w H' h T (.frz { cls := .type "tuple", data := .seq #[u, v] } (.tup [x, y])) :=
  ⟨e, by show 2 ≤ sizeLine; decide, [u, v], .cons rx (.cons ry .nil), ⟨_, e, rfl, _, rfl⟩⟩
theorem turn_jp {elts : List Expr} {kk : Nat} {tpos : Pos} (it : Addr) (hk : ∀ (i : Nat) (e : Ent), es[i]? = some e → ∃ x y, ks[i]? = some x ∧ vs[i]? = some y ∧ RelV x e.key ∧ RelV y e.val) :
    Turn P w K (.Tuple elts kk tpos) (Jp a es ep ks vs) [it] it (fun i h => ∃ ok ov, IsItemIter h it a i es.length ep ok ov) where
  mem := by simp
  obj := fun i h st b hb => by
    have e : b = it := by simpa using hb
    subst e
    obtain ⟨ok, ov, e⟩ := st
    exact ⟨_, e, fun v z => nomatch z⟩
  keep := fun i h h' st k => let ⟨ok, ov, e⟩ := st; ⟨ok, ov, k it (by simp) _ e⟩
  item := by
    intro X hP hw hK hc i pins s σ H E I hf st hg
    subst hP hw hK
    obtain ⟨hd, hi⟩ := hg
    obtain ⟨x, y, hx, hy, rx, ry⟩ := hk i es[i] (List.getElem?_eq_getElem hi)
    obtain ⟨ok, ov, he⟩ := st
    have he' : IsItemIter s.heap it a i es.toArray.size ep ok ov := by simpa using he
    have hlt : it < s.heap.objs.size := Heap.lt_size he
    refine wpAny_pyNext_items_item_raw he' (raw_of I hd) (by simpa using hi) fun h' ho hT hz hk => ?_
    refine ⟨_, rfl, wpAny_letOwnedTupleGo_items (s := { s with heap := h' }) ho fun h'' he2 sb => ?_⟩
    have hT2 : h''.get? s.heap.objs.size = some { cls := .type "tuple", data := .seq #[es[i].key, es[i].val] } := (sb.2 _ (Nat.ne_of_gt hlt)).trans (by simpa using hT)
    have I1 := I.turnedNew (t' := s.toks) (ch := [it]) (ob := .frz _ (.tup [x, y])) (fun b ob hb e => (sb.2 b (by simpa using hb)).trans (hk b ob (by simpa using hb) e)) hf (Nat.le_refl _) (pair_ok hT2 rx ry)
    refine ⟨.ref s.heap.objs.size, _, I1, rfl, ⟨_, _, x, y, rfl, I.hok.fresh (Nat.le_refl _), rfl, rfl, hx, hy⟩, ⟨_, _, by simpa using he2⟩, fun b hb => ?_⟩
    have e : b = it := by simpa using hb
    rw [e, upd_ne (Nat.ne_of_lt hlt)]
    exact (hf it (by simp)).1
  done := by
    intro X hP hw hK hc i pins s σ H E I hf st hg
    subst hP hw hK
    obtain ⟨hd, hi⟩ := hg
    obtain ⟨ok, ov, he⟩ := st
    have he' : IsItemIter s.heap it a i es.toArray.size ep ok ov := by simpa using he
    obtain ⟨f0, f1, f2, f3, f4, f5⟩ := hf it (by simp)
    exact wpAny_pyNext_items_end_raw (I.ok.hd hc) he' (raw_of I hd) (by simpa using hi) fun h' eb => ⟨rfl, I.turned (t' := s.toks) (fun b ob hb e => eb b ob hb e) f0 f1 f3 f4 f5⟩
  self := fun A i s Q E st h => let ⟨_, _, e⟩ := st; PySem.W.kcp_self e h
end
/-- zip of two lists -/
def Jzl (K : PySem.W.Frag) (a b : Addr) : It :=
  ⟨fun i H => ∃ (xs ys : List V) (x y : V), SqL K H a xs ∧ SqL K H b ys ∧ xs[i]? = some x ∧ ys[i]? = some y,
    fun i H v H' => ∃ T o x y, v = .ref T ∧ H T = none ∧ o.dict = none ∧ H' = upd H T (.frz o (.tup [x, y])) ∧ (∀ xs, SqL K H a xs → xs[i]? = some x) ∧ ∀ ys, SqL K H b ys → ys[i]? = some y,
    fun i H => ∃ xs ys : List V, SqL K H a xs ∧ SqL K H b ys ∧ (xs.length ≤ i ∨ ys.length ≤ i)⟩
theorem five {c z1 z2 z3 z4 z5 : Addr} (h : c ∈ [z1, z2, z3, z4, z5]) : c = z1 ∨ c = z2 ∨ c = z3 ∨ c = z4 ∨ c = z5 := by simpa using h
theorem turn_jzl {P : Program} {w : World} {K : PySem.W.Frag} {elts : List Expr} {kk : Nat} {tpos : Pos} {a b z TI TO i1 i2 : Addr} (Dz : ZipApart z TI TO i1 i2 a b) :
    Turn P w K (.Tuple elts kk tpos) (Jzl K a b) [z, TI, TO, i1, i2] z (fun i h => IsZip h z TI TO .none ∧ IsPair h TI (.ref i1) (.ref i2) ∧ (∃ x y, IsPair h TO x y) ∧ h.IsListIter i1 a i ∧ h.IsListIter i2 b i) where
  mem := by simp
  obj := fun i h st c hc => by
    obtain ⟨s1, s2, ⟨x, y, s3⟩, ⟨o1, e1, _, d1⟩, ⟨o2, e2, _, d2⟩⟩ := st
    rcases five hc with q | q | q | q | q <;> subst q
    · exact ⟨_, s1, fun v q => nomatch q⟩
    · exact ⟨_, s2, fun v q => nomatch q⟩
    · exact ⟨_, s3, fun v q => nomatch q⟩
    · exact ⟨o1, e1, fun v q => by rw [d1] at q; cases q⟩
    · exact ⟨o2, e2, fun v q => by rw [d2] at q; cases q⟩
  keep := fun i h h' st k => by
    obtain ⟨s1, s2, ⟨x, y, s3⟩, s4, s5⟩ := st
    exact ⟨k z (by simp) _ s1, k TI (by simp) _ s2, ⟨x, y, k TO (by simp) _ s3⟩, s4.at fun o q => k i1 (by simp) o q, s5.at fun o q => k i2 (by simp) o q⟩
  item := by
    intro X hP hw hK hc i pins s σ H E I hf st hg
    subst hP hw hK
    obtain ⟨s1, s2, ⟨x0, y0, s3⟩, s4, s5⟩ := st
    obtain ⟨xs, ys, x, y, qx, qy, gx, gy⟩ := hg
    obtain ⟨ia, ra, pa, _⟩ := I.list qx
    obtain ⟨ib, rb, pb, _⟩ := I.list qy
    obtain ⟨u, gu, ru⟩ := ra.get gx
    obtain ⟨v, gv, rv⟩ := rb.get gy
    have zl : z < s.heap.objs.size := Heap.lt_size s1
    refine wpAny_pyNext_zip_item Dz s1 s2 s3 s4 s5 pa.isList pb.isList (x := u) (y := v) (by simpa using gu) (by simpa using gv) fun h' t1 t2 t3 t4 t5 _ t6 => ⟨_, rfl, wpAny_letOwnedTupleGo_zip (s := { s with heap := h' }) t1 fun h'' t7 sb => ?_⟩
    have hT : h''.get? s.heap.objs.size = some { cls := .type "tuple", data := .seq #[u, v] } := (sb.2 _ (Nat.ne_of_gt zl)).trans t5
    have I1 := I.turnedNew (t' := s.toks) (ch := [z, TI, TO, i1, i2]) (ob := .frz _ (.tup [x, y])) (fun c o hb q => (sb.2 c (fun w => hb (by simp [w]))).trans
      (t6 c o (fun w => hb (by simp [w])) (fun w => hb (by simp [w])) (fun w => hb (by simp [w])) (fun w => hb (by simp [w])) q)) hf (Nat.le_refl _) (pair_ok hT ru rv)
    refine ⟨.ref s.heap.objs.size, _, I1, rfl, ⟨_, _, x, y, rfl, I.hok.fresh (Nat.le_refl _), rfl, rfl, fun l hl => by rw [I.list_inj hl qx]; exact gx, fun l hl => by rw [I.list_inj hl qy]; exact gy⟩, ⟨t7, ?_, ⟨u, v, ?_⟩, ?_, ?_⟩, fun c hm => ?_⟩
    · exact (sb.2 _ Dz.TIz).trans (t6 _ _ Dz.TIz Dz.TITO Dz.TIi1 Dz.TIi2 s2)
    · exact (sb.2 _ Dz.TOz).trans t2
    · exact t3.at fun o q => (sb.2 _ Dz.i1z).trans q
    · exact t4.at fun o q => (sb.2 _ Dz.i2z).trans q
    · have lt : c < s.heap.objs.size := by
        rcases five hm with q | q | q | q | q <;> subst q
        · exact zl
        · exact Heap.lt_size s2
        · exact Heap.lt_size s3
        · obtain ⟨_, e1, _⟩ := s4; exact Heap.lt_size e1
        · obtain ⟨_, e1, _⟩ := s5; exact Heap.lt_size e1
      rw [upd_ne (Nat.ne_of_lt lt)]
      exact (hf c hm).1
  done := by
    intro X hP hw hK hc i pins s σ H E I hf st hg
    subst hP hw hK
    obtain ⟨s1, s2, ⟨x0, y0, s3⟩, s4, s5⟩ := st
    obtain ⟨xs, ys, qx, qy, he⟩ := hg
    obtain ⟨ia, ra, pa, _⟩ := I.list qx
    obtain ⟨ib, rb, pb, _⟩ := I.list qy
    have la := ra.length
    have lb := rb.length
    have fin : ia.toArray[i]? = none ∨ ib.toArray[i]? = none := he.imp (fun q => by simp; omega) fun q => by simp; omega
    exact wpAny_pyNext_zip_end (I.ok.hd hc) Dz s1 s2 s3 s4 s5 pa.isList pb.isList fin fun h' hk => ⟨rfl, I.turnedL (t' := s.toks) (ch := [z, TI, TO, i1, i2]) (fun c o hb q =>
      hk c o (fun w => hb (by simp [w])) (fun w => hb (by simp [w])) (fun w => hb (by simp [w])) (fun w => hb (by simp [w])) q) hf⟩
  self := fun A i s Q E st h => wpAny_pyIter_zip st.1 h
/-- zip of two tuples -/
def Jzt (K : PySem.W.Frag) (a b : Addr) : It :=
  ⟨fun i H => ∃ (xs ys : List V) (x y : V), SqT K H a xs ∧ SqT K H b ys ∧ xs[i]? = some x ∧ ys[i]? = some y,
    fun i H v H' => ∃ T o x y, v = .ref T ∧ H T = none ∧ o.dict = none ∧ H' = upd H T (.frz o (.tup [x, y])) ∧ (∀ xs, SqT K H a xs → xs[i]? = some x) ∧ ∀ ys, SqT K H b ys → ys[i]? = some y,
    fun i H => ∃ xs ys : List V, SqT K H a xs ∧ SqT K H b ys ∧ (xs.length ≤ i ∨ ys.length ≤ i)⟩
theorem turn_jzt {P : Program} {w : World} {K : PySem.W.Frag} {elts : List Expr} {kk : Nat} {tpos : Pos} {a b z TI TO i1 i2 : Addr} (Dz : ZipApart z TI TO i1 i2 a b) :
    Turn P w K (.Tuple elts kk tpos) (Jzt K a b) [z, TI, TO, i1, i2] z (fun i h => IsZip h z TI TO .none ∧ IsPair h TI (.ref i1) (.ref i2) ∧ (∃ x y, IsPair h TO x y) ∧ h.IsTupleIter i1 a i ∧ h.IsTupleIter i2 b i) where
  mem := by simp
  obj := fun i h st c hc => by
    obtain ⟨s1, s2, ⟨x, y, s3⟩, ⟨o1, e1, _, d1⟩, ⟨o2, e2, _, d2⟩⟩ := st
    rcases five hc with q | q | q | q | q <;> subst q
    · exact ⟨_, s1, fun v q => nomatch q⟩
    · exact ⟨_, s2, fun v q => nomatch q⟩
    · exact ⟨_, s3, fun v q => nomatch q⟩
    · exact ⟨o1, e1, fun v q => by rw [d1] at q; cases q⟩
    · exact ⟨o2, e2, fun v q => by rw [d2] at q; cases q⟩
  keep := fun i h h' st k => by
    obtain ⟨s1, s2, ⟨x, y, s3⟩, s4, s5⟩ := st
    exact ⟨k z (by simp) _ s1, k TI (by simp) _ s2, ⟨x, y, k TO (by simp) _ s3⟩, s4.at fun o q => k i1 (by simp) o q, s5.at fun o q => k i2 (by simp) o q⟩
  item := by
    intro X hP hw hK hc i pins s σ H E I hf st hg
    subst hP hw hK
    obtain ⟨s1, s2, ⟨x0, y0, s3⟩, s4, s5⟩ := st
    obtain ⟨xs, ys, x, y, qx, qy, gx, gy⟩ := hg
    obtain ⟨ia, ra, pa, _⟩ := I.tuple qx
    obtain ⟨ib, rb, pb, _⟩ := I.tuple qy
    obtain ⟨u, gu, ru⟩ := ra.get gx
    obtain ⟨v, gv, rv⟩ := rb.get gy
    have zl : z < s.heap.objs.size := Heap.lt_size s1
    refine RZ.pyNext_zipT_item Dz s1 s2 s3 s4 s5 pa pb (x := u) (y := v) (by simpa using gu) (by simpa using gv) fun h' t1 t2 t3 t4 t5 _ t6 => ⟨_, rfl, wpAny_letOwnedTupleGo_zip (s := { s with heap := h' }) t1 fun h'' t7 sb => ?_⟩
    have hT : h''.get? s.heap.objs.size = some { cls := .type "tuple", data := .seq #[u, v] } := (sb.2 _ (Nat.ne_of_gt zl)).trans t5
    have I1 := I.turnedNew (t' := s.toks) (ch := [z, TI, TO, i1, i2]) (ob := .frz _ (.tup [x, y])) (fun c o hb q => (sb.2 c (fun w => hb (by simp [w]))).trans
      (t6 c o (fun w => hb (by simp [w])) (fun w => hb (by simp [w])) (fun w => hb (by simp [w])) (fun w => hb (by simp [w])) q)) hf (Nat.le_refl _) (pair_ok hT ru rv)
    refine ⟨.ref s.heap.objs.size, _, I1, rfl, ⟨_, _, x, y, rfl, I.hok.fresh (Nat.le_refl _), rfl, rfl, fun l hl => by rw [I.tuple_inj hl qx]; exact gx, fun l hl => by rw [I.tuple_inj hl qy]; exact gy⟩, ⟨t7, ?_, ⟨u, v, ?_⟩, ?_, ?_⟩, fun c hm => ?_⟩
    · exact (sb.2 _ Dz.TIz).trans (t6 _ _ Dz.TIz Dz.TITO Dz.TIi1 Dz.TIi2 s2)
    · exact (sb.2 _ Dz.TOz).trans t2
    · exact t3.at fun o q => (sb.2 _ Dz.i1z).trans q
    · exact t4.at fun o q => (sb.2 _ Dz.i2z).trans q
    · have lt : c < s.heap.objs.size := by
        rcases five hm with q | q | q | q | q <;> subst q
        · exact zl
        · exact Heap.lt_size s2
        · exact Heap.lt_size s3
        · obtain ⟨_, e1, _⟩ := s4; exact Heap.lt_size e1
        · obtain ⟨_, e1, _⟩ := s5; exact Heap.lt_size e1
      rw [upd_ne (Nat.ne_of_lt lt)]
      exact (hf c hm).1
  done := by
    intro X hP hw hK hc i pins s σ H E I hf st hg
    subst hP hw hK
    obtain ⟨s1, s2, ⟨x0, y0, s3⟩, s4, s5⟩ := st
    obtain ⟨xs, ys, qx, qy, he⟩ := hg
    obtain ⟨ia, ra, pa, _⟩ := I.tuple qx
    obtain ⟨ib, rb, pb, _⟩ := I.tuple qy
    have la := ra.length
    have lb := rb.length
    have fin : ia.toArray[i]? = none ∨ ib.toArray[i]? = none := he.imp (fun q => by simp; omega) fun q => by simp; omega
    exact RZ.pyNext_zipT_end (I.ok.hd hc) Dz s1 s2 s3 s4 s5 pa pb fin fun h' hk => ⟨rfl, I.turnedL (t' := s.toks) (ch := [z, TI, TO, i1, i2]) (fun c o hb q =>
      hk c o (fun w => hb (by simp [w])) (fun w => hb (by simp [w])) (fun w => hb (by simp [w])) (fun w => hb (by simp [w])) q) hf⟩
  self := fun A i s Q E st h => wpAny_pyIter_zip st.1 h
/-- enumerate of a list -/
def Jen (K : PySem.W.Frag) (a : Addr) : It :=
  ⟨fun i H => ∃ (xs : List V) (x : V), SqL K H a xs ∧ xs[i]? = some x, fun i H v H' => ∃ T o x, v = .ref T ∧ H T = none ∧ o.dict = none ∧ H' = upd H T (.frz o (.tup [.int (i : Nat), x])) ∧ ∀ xs, SqL K H a xs → xs[i]? = some x,
    fun i H => ∃ xs : List V, SqL K H a xs ∧ xs.length ≤ i⟩
theorem turn_jen {P : Program} {w : World} {K : PySem.W.Frag} {elts : List Expr} {kk : Nat} {tpos : Pos} (a e it : Addr) :
    Turn P w K (.Tuple elts kk tpos) (Jen K a) [e, it] e (fun i h => (∃ old, IsEnum h e it ((i : Nat) : Int) old) ∧ h.IsListIter it a i ∧ e ≠ it) where
  mem := by simp
  obj := fun i h st b hb => by
    obtain ⟨⟨old, s1⟩, ⟨o, s2, _, s3⟩, _⟩ := st
    have q : b = e ∨ b = it := by simpa using hb
    rcases q with q | q <;> subst q
    · exact ⟨_, s1, fun v q => nomatch q⟩
    · exact ⟨o, s2, fun v q => by rw [s3] at q; cases q⟩
  keep := fun i h h' ⟨⟨old, s1⟩, s2, s3⟩ k => ⟨⟨old, k e (by simp) _ s1⟩, s2.at fun o q => k it (by simp) o q, s3⟩
  item := by
    intro X hP hw hK hc i pins s σ H E I hf st hg
    subst hP hw hK
    obtain ⟨⟨old, s1⟩, s2, ne⟩ := st
    obtain ⟨xs, x, qx, gx⟩ := hg
    obtain ⟨ia, ra, pa, _⟩ := I.list qx
    obtain ⟨u, gu, ru⟩ := ra.get gx
    have l1 : e < s.heap.objs.size := Heap.lt_size s1
    have l2 : it < s.heap.objs.size := by obtain ⟨_, q, _⟩ := s2; exact Heap.lt_size q
    refine wpAny_pyNext_enum_item s1 s2 pa.isList (x := u) (by simpa using gu) ne fun h' t1 t2 t3 _ t4 => ⟨_, rfl, wpAny_letOwnedTupleGo_enum (s := { s with heap := h', toks := s.toks + 1 }) t1 fun h'' t5 sb => ?_⟩
    have hT : h''.get? s.heap.objs.size = some { cls := .type "tuple", data := .seq #[.int i s.toks, u] } := (sb.2 _ (Nat.ne_of_gt l1)).trans t3
    have I1 := I.turnedNew (t' := s.toks + 1) (ch := [e, it]) (ob := .frz _ (.tup [.int (i : Nat), x])) (fun b ob hb q => (sb.2 b (fun w => hb (by simp [w]))).trans (t4 b ob (fun w => hb (by simp [w])) (fun w => hb (by simp [w])) q)) hf (Nat.le_refl _)
      (pair_ok hT (show RelV (.int (i : Nat)) (.int i s.toks) from ⟨_, rfl⟩) ru)
    refine ⟨.ref s.heap.objs.size, _, I1, rfl, ⟨_, _, x, rfl, I.hok.fresh (Nat.le_refl _), rfl, rfl, fun l hl => by rw [I.list_inj hl qx]; exact gx⟩, ⟨⟨u, ?_⟩, t2.at fun o q => (sb.2 it (Ne.symm ne)).trans q, ne⟩, fun b hb => ?_⟩
    · have e1 : ((i + 1 : Nat) : Int) = (i : Int) + 1 := by omega
      rw [e1]
      exact t5
    · have lt : b < s.heap.objs.size := by
        have q : b = e ∨ b = it := by simpa using hb
        rcases q with q | q <;> subst q
        · exact l1
        · exact l2
      rw [upd_ne (Nat.ne_of_lt lt)]
      exact (hf b hb).1
  done := by
    intro X hP hw hK hc i pins s σ H E I hf st hg
    subst hP hw hK
    obtain ⟨⟨old, s1⟩, s2, ne⟩ := st
    obtain ⟨xs, qx, gx⟩ := hg
    obtain ⟨ia, ra, pa, _⟩ := I.list qx
    obtain ⟨f0, f1, f2, f3, f4, f5⟩ := hf it (by simp)
    have la := ra.length
    exact wpAny_pyNext_enum_end (I.ok.hd hc) s1 s2 pa.isList (by simp; omega) fun h' eb => ⟨rfl, I.turned (t' := s.toks) (fun b o hb q => eb b o hb q) f0 f1 f3 f4 f5⟩
  self := fun A i s Q E ⟨⟨_, s1⟩, _⟩ h => wpAny_pyIter_enum s1 h
section
variable {w : World} {K : PySem.W.Frag} {mg : Str → Option Value} {Af : AfR} {W : Wd} {H : Hp}
/-- a dict's keys and values, apart -/
theorem RVd.apart : ∀ {kvs : List (D × D)} {es : List Ent}, RVd w K mg W H kvs es → ∃ ks vs, RVs w K mg W H (kvs.map (·.1)) ks ∧ RVs w K mg W H (kvs.map (·.2)) vs ∧
    ∀ (i : Nat) (e : Ent), es[i]? = some e → ∃ x y, ks[i]? = some x ∧ vs[i]? = some y ∧ RelV x e.key ∧ RelV y e.val
  | _, _, .nil => ⟨[], [], .nil, .nil, fun i e h => by simp at h⟩
  | _, _, .cons _ _ _ rk ek rv ev t => by
    obtain ⟨ks, vs, h1, h2, h3⟩ := t.apart
    refine ⟨_ :: ks, _ :: vs, .cons rk h1, .cons rv h2, fun i e h => ?_⟩
    cases i with
    | zero =>
      simp only [List.getElem?_cons_zero, Option.some.injEq] at h
      subst h
      exact ⟨_, _, rfl, rfl, ek, ev⟩
    | succ i =>
      rw [List.getElem?_cons_succ] at h
      exact h3 i e h
theorem itok_jk {chk : EH → Bool} {a : Addr} {es : List Ent} {ep : Nat} {ks : List V} {ds : List D} (hl : ds.length = es.length) (l : ∀ W' H', Af W H W' H' → H' a = some (dO a es ep) ∧ RVs w K mg W' H' ds ks) : ItOk w K mg Af (Jk a es ep ks) chk ds W H where
  go := fun W' H' h' i d e ok hr hc hi => by
    obtain ⟨q, r⟩ := l W' H' e
    obtain ⟨v, q1, q2⟩ := r.get hi
    refine ⟨⟨q, by rw [← hl]; exact (List.getElem?_eq_some_iff.mp hi).1⟩, fun x H'' ⟨e1, e2⟩ => ?_⟩
    subst e1
    rw [q1] at e2
    cases e2
    exact ⟨W', Ext.refl _ _, ok, hr, q2⟩
  stop := fun W' H' h' i e ok hr hc hi => ⟨(l W' H' e).1, by rw [← hl]; exact hi⟩
def pairs (kvs : List (D × D)) : List D := kvs.map fun e => .tup [e.1, e.2]
theorem itok_jp {chk : EH → Bool} {a : Addr} {es : List Ent} {ep : Nat} {ks vs : List V} {kvs : List (D × D)} (hl : kvs.length = es.length)
    (l : ∀ W' H', Af W H W' H' → H' a = some (dO a es ep) ∧ RVs w K mg W' H' (kvs.map (·.1)) ks ∧ RVs w K mg W' H' (kvs.map (·.2)) vs) : ItOk w K mg Af (Jp a es ep ks vs) chk (pairs kvs) W H where
  go := fun W' H' h' i d e ok hr hc hi => by
    obtain ⟨q, r, t⟩ := l W' H' e
    unfold pairs at hi
    rw [List.getElem?_map, Option.map_eq_some_iff] at hi
    obtain ⟨p, hp, rfl⟩ := hi
    obtain ⟨x, x1, x2⟩ := r.get (show (kvs.map (·.1))[i]? = some p.1 by rw [List.getElem?_map, hp]; rfl)
    obtain ⟨y, y1, y2⟩ := t.get (show (kvs.map (·.2))[i]? = some p.2 by rw [List.getElem?_map, hp]; rfl)
    refine ⟨⟨q, by rw [← hl]; exact (List.getElem?_eq_some_iff.mp hp).1⟩, fun v H'' ⟨T, oo, x', y', e1, e2, hdn, e3, e4, e5⟩ => ?_⟩
    subst e1; subst e3
    rw [x1] at e4; cases e4
    rw [y1] at e5; cases e5
    have N := newP (w := w) (K := K) (mg := mg) (o := .frz oo (.tup [x, y])) ok e2
    exact ⟨_, N.ext, N.ok, N.hr _ hr, .tup (.inl ⟨.inr rfl, oo, upd_same, hdn⟩) (.cons (x2.ext (N.ext.gr ok)) (.cons (y2.ext (N.ext.gr ok)) .nil))⟩
  stop := fun W' H' h' i e ok hr hc hi => ⟨(l W' H' e).1, by rw [← hl]; unfold pairs at hi; rw [List.length_map] at hi; exact hi⟩
end
end Mp

set_option Elab.async false
set_option linter.all false
set_option maxRecDepth 100000
/-! Mp: what is walked, by syntax. -/
namespace Mp
open PySem PySem.Spec L2
open PyProof.Rows hiding St

structure SimQ (X : Cx) (Af : AfR) (e : Expr) (m : EM) : Prop where
  run : ∀ Wx, Takes X Wx → PE X e (Tg X (rL X.w X.K X.mg Af) m Wx)
abbrev IM := Tu → EH → R Src
structure SimI (X : Cx) (Af : AfR) (tg e : Expr) (m : IM) : Prop where
  run : ∀ Wx, Takes X Wx → PI X tg e (Tg X (rI X.w X.K X.mg Af) m Wx)
section
variable {X : Cx} {Af : AfR} {e a b c tg : Expr} {pos : Pos} {m : EM}
theorem SimE.q (af : AfOk Af) (h : SimE X e m) : SimQ X Af e m := ⟨fun Wx tk => PE.imp (h.run Wx tk) fun σ H Q ⟨W0, H0, W, τ, hp, s, g⟩ => ⟨W0, H0, W, τ, hp, s, by
  unfold Ko at g ⊢
  split at g
  · exact fun v W' H' e ok hr q => g v W' H' e ok hr (liv_s af ok q)
  · exact g
  · exact g⟩⟩
theorem SimW.q (h : SimW X e m) : SimQ X Ext e m := ⟨fun Wx tk => PE.imp (h.run Wx tk) fun σ H Q ⟨W0, H0, W, τ, hp, s, g⟩ => ⟨W0, H0, W, τ, hp, s, by
  unfold Ko at g ⊢
  split at g
  · exact fun v W' H' e ok hr q => g v W' H' e ok hr (liv_w ok q)
  · exact g
  · exact g⟩⟩
/-- the items of what may be walked -/
def walkB (src cont : D) : Option (List D) := match cont with
  | .lst ds => some ds
  | .tup ds => some ds
  | .str x => some (chars x)
  | .dct kvs => match src with
    | .dct _ => some (kvs.map (·.1))
    | _ => none
  | _ => none
def mWalk (m : EM) : IM := fun τ h => (m τ h).bind fun src h1 => match walkB src (der h1 src) with
  | some ds => .ok (isAs src (der h1 src), ds) h1
  | none => .no
theorem der_dct {h : EH} {kvs : List (D × D)} : der h (.dct kvs) = .dct kvs := rfl
theorem pi_dk {td : TE} (he : PE X e td) : PI X tg e (fun σ H R => td σ H fun x H1 => ∃ d es ep ks, x = .ref d ∧ H1 d = some (dO d es ep) ∧ (∀ (i : Nat) (e : Ent), es[i]? = some e → ∃ x, ks[i]? = some x ∧ RelV x e.key) ∧ R (Jk d es ep ks) H1) := by
  refine ⟨fun pins s σ H R I h => ?_⟩
  refine thn (he.run pins s σ H _ I h) fun u s1 ⟨x, H1, I1, rx, d, es, ep, ks, ex, hd, hk, q⟩ => ?_
  subst ex
  obtain rfl : u = Value.ref d := rx
  refine wpAny_pyIter_dict_raw (dict_raw I1 hd).1 (raw_of I1 hd) (pi_one (tk := s1.toks) I1 _ (turn_jk _ hk) ⟨_, Heap.get?_push_size _ rfl, rfl, ?_⟩ q)
  simp
theorem simI_e (af : AfOk Af) (h : SimQ X Af e m) : SimI X Af tg e (mWalk m) := by
  refine ⟨fun Wx tk => ⟨fun pins s σ H Rr I q => ?_⟩⟩
  obtain ⟨W0, H0, W, τ, hp, sr, g⟩ := q
  have g0 := g
  have fin : ∀ {tl : St → Hp → (It → Hp → Prop) → Prop} (p : PI X tg e tl), tl σ H Rr → wpAny (model X.prog X.w) X.A (eval e X.env) (fun v s1 => wpAny (model X.prog X.w) X.A (pyIter v) (PIE X pins σ tg Rr) X.xe s1) X.xe s := fun p q => p.run pins s σ H Rr I q
  cases hm : m τ hp with
  | no =>
    unfold mWalk at g
    rw [hm] at g
    exact g.elim
  | exc x h1 =>
    refine fin (pi_list (h.run Wx tk)) ⟨W0, H0, W, τ, hp, sr, Ko.step monoI g fun d h2 v W1 H1 hq => ?_⟩
    rw [hm] at hq
    cases hq
  | ok src h1 =>
    unfold mWalk at g0
    rw [hm] at g0
    have g1 : Ko X.w X.K X.mg (rI X.w X.K X.mg Af) W H (fun c d H => Wx c d σ H) (match walkB src (der h1 src) with | some ds => R.ok (isAs src (der h1 src), ds) h1 | none => R.no) Rr := g0
    clear g0
    cases hw : walkB src (der h1 src) with
    | none => rw [hw] at g1; exact g1.elim
    | some ds =>
      unfold walkB at hw
      split at hw
      · rename_i ds' hc
        cases hw
        refine fin (pi_list (h.run Wx tk)) ⟨W0, H0, W, τ, hp, sr, Ko.step monoI g fun d h2 v W1 H1 hq e1 ok1 hr1 l g2 => ?_⟩
        rw [hm] at hq
        cases hq
        have rx := RW.x l.rw hr1
        rw [hc] at rx
        obtain ⟨a, vs, rfl, q1, q2⟩ := rx.lst
        refine ⟨a, rfl, ⟨vs, q1⟩, ?_⟩
        rw [hc] at g2
        exact g2 (Itl X.K a) W1 H1 (Ext.refl _ _) ok1 hr1 (itok_list l)
      · rename_i ds' hc
        cases hw
        refine fin (pi_tup (h.run Wx tk)) ⟨W0, H0, W, τ, hp, sr, Ko.step monoI g fun d h2 v W1 H1 hq e1 ok1 hr1 l g2 => ?_⟩
        rw [hm] at hq
        cases hq
        have rx := RW.x l.rw hr1
        rw [hc] at rx
        obtain ⟨a, vs, rfl, q1, q2⟩ := rx.tup
        refine ⟨a, rfl, ⟨vs, q1⟩, ?_⟩
        rw [hc] at g2
        exact g2 (Itt X.K a) W1 H1 (Ext.refl _ _) ok1 hr1 (itok_tup l)
      · rename_i x hc
        cases hw
        refine fin (pi_str (h.run Wx tk)) ⟨W0, H0, W, τ, hp, sr, Ko.step monoI g fun d h2 v W1 H1 hq e1 ok1 hr1 l g2 => ?_⟩
        rw [hm] at hq
        cases hq
        have rx := RW.x l.rw hr1
        rw [hc] at rx
        cases rx.str
        refine ⟨x, rfl, ?_⟩
        rw [hc] at g2
        exact g2 (Its x) W1 H1 (Ext.refl _ _) ok1 hr1 itok_str
      · rename_i kvs hc
        split at hw
        · rename_i kvs'
          cases hc
          cases hw
          refine fin (pi_dk (h.run Wx tk)) ⟨W0, H0, W, τ, hp, sr, Ko.step monoI g fun d h2 v W1 H1 hq e1 ok1 hr1 l g2 => ?_⟩
          rw [hm] at hq
          cases hq
          obtain ⟨a, es, ep, rfl, nd, lv⟩ := l.dc kvs rfl
          obtain ⟨q1, q2⟩ := lv W1 H1 (af.rf _ _)
          obtain ⟨ks, vs, h3, h4, h5⟩ := q2.apart
          refine ⟨a, es, ep, ks, rfl, q1, fun i e he => ?_, ?_⟩
          · obtain ⟨x, y, z1, _, z2, _⟩ := h5 i e he
            exact ⟨x, z1, z2⟩
          · exact g2 (Jk a es ep ks) W1 H1 (Ext.refl _ _) ok1 hr1 (itok_jk (by rw [List.length_map]; exact q2.len) fun W' H' e' => ⟨(lv W' H' e').1, h3.ext (af.gr _ _ _ _ ok1 e')⟩)
        · cases hw
      · cases hw
/-! ### range, zip, enumerate, items, values -/
def rgOk (i : Int) : Bool := decide (-4611686018427387904 ≤ i) && decide (i < 4611686018427387904)
theorem rgOk_iff {i : Int} (h : rgOk i = true) : -(2 ^ 62) ≤ i ∧ i < 2 ^ 62 := by
  unfold rgOk at h
  rw [Bool.and_eq_true, decide_eq_true_eq, decide_eq_true_eq] at h
  omega
def rngB1 (ds : List D) : Option (List D) := match ds with
  | [.int j] => if rgOk j = true then some (rangeD 0 j.toNat) else none
  | _ => none
def rngB2 (ds : List D) : Option (List D) := match ds with
  | [.int i, .int j] => if (rgOk i && rgOk j) = true then some (rangeD i (j - i).toNat) else none
  | _ => none
def rngB3 (ds : List D) : Option (List D) := match ds with
  | [.int i, .int j, .int c] => if c = -1 ∧ (rgOk i && rgOk j) = true then some (rangeC i (-1) (i - j).toNat) else none
  | _ => none
def mRng (f : List D → Option (List D)) (m : AM) : IM := fun τ h => (m τ h).bind fun ds h1 => match f ds with
  | some r => .ok (fun _ => true, r) h1
  | none => .no
theorem RWs.one {w : World} {K : PySem.W.Frag} {mg : Str → Option Value} {W : Wd} {H : Hp} {d : D} {vs : List V} (r : RWs w K mg W H [d] vs) : ∃ v, vs = [v] ∧ RW w K mg W H d v := by
  cases r with
  | cons r t => cases t; exact ⟨_, rfl, r⟩
theorem RWs.two {w : World} {K : PySem.W.Frag} {mg : Str → Option Value} {W : Wd} {H : Hp} {d e : D} {vs : List V} (r : RWs w K mg W H [d, e] vs) : ∃ v u, vs = [v, u] ∧ RW w K mg W H d v ∧ RW w K mg W H e u := by
  cases r with
  | cons r t =>
    obtain ⟨u, rfl, q⟩ := t.one
    exact ⟨_, _, rfl, r, q⟩
theorem RWs.three {w : World} {K : PySem.W.Frag} {mg : Str → Option Value} {W : Wd} {H : Hp} {d e f : D} {vs : List V} (r : RWs w K mg W H [d, e, f] vs) : ∃ v u t, vs = [v, u, t] ∧ RW w K mg W H d v ∧ RW w K mg W H e u ∧ RW w K mg W H f t := by
  cases r with
  | cons r t =>
    obtain ⟨u, t, rfl, q, q'⟩ := t.two
    exact ⟨_, _, _, rfl, r, q, q'⟩
theorem der_non {h : EH} : der h .non = .non := rfl
theorem simI_rng1 {ma : AM} {p : Pos} (hg : Gl X "range") (hm : X.mg "range" = none) (ha : SimAW X [a] ma) (hs : starEach [a] X.env = [(false, eval a X.env)]) : SimI X Af tg (.Call (.Name "range" p) [a] [] pos) (mRng rngB1 ma) := by
  refine ⟨fun Wx tk => ⟨fun pins s σ H Rr I q => ?_⟩⟩
  obtain ⟨W0, H0, W, τ, hp, sr, g⟩ := q
  refine (pi_range1 hg hm (ha.run Wx tk) hs).run pins s σ H Rr I ⟨W0, H0, W, τ, hp, sr, Ko.step monoI g fun ds h2 v W1 H1 hq2 e1 ok1 hr1 l g2 => ?_⟩
  unfold rngB1 at g2
  split at g2
  · rename_i r hr
    split at hr
    · split at hr
      · rename_i j hj
        cases hr
        obtain ⟨v, rfl, q⟩ := l.one
        cases q.int
        obtain ⟨h3, h4⟩ := rgOk_iff hj
        exact ⟨j, rfl, h3, h4, g2 _ W1 H1 (Ext.refl _ _) ok1 hr1 itok_range⟩
      · cases hr
    · cases hr
  · exact g2.elim
theorem simI_rng2 {ma : AM} {p : Pos} (hg : Gl X "range") (hm : X.mg "range" = none) (ha : SimAW X [a, b] ma) (hs : starEach [a, b] X.env = [(false, eval a X.env), (false, eval b X.env)]) (hs2 : starEach [b] X.env = [(false, eval b X.env)]) :
    SimI X Af tg (.Call (.Name "range" p) [a, b] [] pos) (mRng rngB2 ma) := by
  refine ⟨fun Wx tk => ⟨fun pins s σ H Rr I q => ?_⟩⟩
  obtain ⟨W0, H0, W, τ, hp, sr, g⟩ := q
  refine (pi_range2 hg hm (ha.run Wx tk) hs hs2).run pins s σ H Rr I ⟨W0, H0, W, τ, hp, sr, Ko.step monoI g fun ds h2 v W1 H1 hq2 e1 ok1 hr1 l g2 => ?_⟩
  unfold rngB2 at g2
  split at g2
  · rename_i r hr
    split at hr
    · split at hr
      · rename_i i j hj
        rw [Bool.and_eq_true] at hj
        cases hr
        obtain ⟨v, u, rfl, q, q'⟩ := l.two
        cases q.int; cases q'.int
        obtain ⟨h3, h4⟩ := rgOk_iff hj.1
        obtain ⟨h5, h6⟩ := rgOk_iff hj.2
        exact ⟨i, j, rfl, ⟨h3, h4, h5, h6⟩, g2 _ W1 H1 (Ext.refl _ _) ok1 hr1 itok_range⟩
      · cases hr
    · cases hr
  · exact g2.elim
theorem simI_rng3 {ma : AM} {p : Pos} (hg : Gl X "range") (hm : X.mg "range" = none) (ha : SimAW X [a, b, c] ma)
    (hs : starEach [a, b, c] X.env = (false, eval a X.env) :: starEach [b, c] X.env) (hpl : (backTo pos (starEach [b, c] X.env)).any (·.1) = false) :
    SimI X Af tg (.Call (.Name "range" p) [a, b, c] [] pos) (mRng rngB3 ma) := by
  refine ⟨fun Wx tk => ⟨fun pins s σ H Rr I q => ?_⟩⟩
  obtain ⟨W0, H0, W, τ, hp, sr, g⟩ := q
  refine (pi_range3 hg hm (ha.run Wx tk) hs hpl).run pins s σ H Rr I ⟨W0, H0, W, τ, hp, sr, Ko.step monoI g fun ds h2 v W1 H1 hq2 e1 ok1 hr1 l g2 => ?_⟩
  unfold rngB3 at g2
  split at g2
  · rename_i r hr
    split at hr
    · split at hr
      · rename_i i j c hj
        obtain ⟨hc, hj⟩ := hj
        subst hc
        rw [Bool.and_eq_true] at hj
        cases hr
        obtain ⟨v, u, t, rfl, q, q', q''⟩ := l.three
        cases q.int; cases q'.int; cases q''.int
        obtain ⟨h3, h4⟩ := rgOk_iff hj.1
        obtain ⟨h5, h6⟩ := rgOk_iff hj.2
        exact ⟨i, j, -1, _, rfl, RgC.neg h3 h4 h5 h6, g2 _ W1 H1 (Ext.refl _ _) ok1 hr1 itok_rangeC⟩
      · cases hr
    · cases hr
  · exact g2.elim
/-! d.items(), d.values(), d.keys() -/
inductive Vw where
  | keys | vals | items
def Vw.name : Vw → Str
  | .keys => "keys" | .vals => "values" | .items => "items"
def Vw.ds (k : Vw) (kvs : List (D × D)) : List D := match k with
  | .keys => kvs.map (·.1)
  | .vals => kvs.map (·.2)
  | .items => pairs kvs
/-- a dict that is read through a method -/
def tDict (X : Cx) (te : TE) (Qd : Addr → List Ent → Nat → Hp → Prop) : St → Hp → Prop := fun σ H => te σ H fun x H1 => ∃ d es ep, x = .ref d ∧ H1 d = some (dO d es ep) ∧ Qd d es ep H1
theorem pi_it {te : TE} {elts : List Expr} {kk : Nat} {tpos apos cpos : Pos} (he : PE X e te) (hbase : attributeBase e "items" X.env (eval e X.env) = eval e X.env) (hline : (apos.endLine == cpos.line) = true) :
    PI X (.Tuple elts kk tpos) (.Call (.Attribute e "items" apos) [] [] cpos) (fun σ H R => tDict X te (fun d es ep H1 => ∃ ks vs, (∀ (i : Nat) (e : Ent), es[i]? = some e → ∃ x y, ks[i]? = some x ∧ vs[i]? = some y ∧ RelV x e.key ∧ RelV y e.val) ∧ R (Jp d es ep ks vs) H1) σ H) := by
  refine ⟨fun pins s σ H R I h => ?_⟩
  refine wpAny_Call_method (T := "dict") (id := "dict.items") hbase rfl hline F.plainAttrs_dict F.slot_dict_items F.type_dict_items (thn (he.run pins s σ H _ I h) fun u s1 ⟨x, H1, I1, rx, d, es, ep, ex, hd, ks, vs, hk, q⟩ => ?_)
  subst ex
  obtain rfl : u = Value.ref d := rx
  have rw1 := raw_of I1 hd
  have hs := (dict_raw I1 hd).1
  obtain ⟨o, ho, hx, hdat⟩ := id rw1
  refine ⟨rw1.typeIs, fun a ea => by cases ea; exact ⟨o, ho, hx.2.1⟩, ?_⟩
  have I2 : Inv X pins σ H1 { s1 with heap := s1.heap.push { cls := .type "dict_items", data := .fields #[.ref d] } } := I1.kept (t' := s1.toks) fun b ob q => Heap.get?_push_of_some _ q
  have fin : wpAny (model X.prog X.w) X.A (pyIter (.ref s1.heap.objs.size)) (PIE X pins σ (.Tuple elts kk tpos) R) X.xe { s1 with heap := s1.heap.push { cls := .type "dict_items", data := .fields #[.ref d] } } := by
    refine wpAny_pyIter_items_raw (d := d) ⟨_, Heap.get?_push_size _ rfl, rfl, rfl⟩ (raw_of I2 hd) (pi_one (tk := s1.toks) I2 _ (turn_jp _ hk) ⟨.none, .none, ?_⟩ q)
    simp only [List.size_toArray]
    exact Heap.get?_push_size _ rfl
  show wpAny _ _ (callWith cpos (.builtin "dict.items") [.ref d] [] []) _ X.xe s1
  exact method_meetsIn F.slot_dict_items F.entry_dict_items rfl (PySem.evalArgs_none ⟨rfl, rw1.typeIs, F.args_dict_items_1 _, _, meets_dict_items_raw d hs, ⟨_, _, rw1⟩, fin⟩)
theorem pi_vl {te : TE} {apos cpos : Pos} (he : PE X e te) (hbase : attributeBase e "values" X.env (eval e X.env) = eval e X.env) (hline : (apos.endLine == cpos.line) = true) :
    PI X tg (.Call (.Attribute e "values" apos) [] [] cpos) (fun σ H R => tDict X te (fun d es ep H1 => ∃ ks, (∀ (i : Nat) (e : Ent), es[i]? = some e → ∃ x, ks[i]? = some x ∧ RelV x e.val) ∧ R (Jk d es ep ks) H1) σ H) := by
  refine ⟨fun pins s σ H R I h => ?_⟩
  refine wpAny_Call_method (T := "dict") (id := "dict.values") hbase rfl hline F.plainAttrs_dict F.slot_dict_values F.type_dict_values (thn (he.run pins s σ H _ I h) fun u s1 ⟨x, H1, I1, rx, d, es, ep, ex, hd, ks, hk, q⟩ => ?_)
  subst ex
  obtain rfl : u = Value.ref d := rx
  have rw1 := raw_of I1 hd
  have hs := (dict_raw I1 hd).1
  obtain ⟨o, ho, hx, hdat⟩ := id rw1
  refine ⟨rw1.typeIs, fun a ea => by cases ea; exact ⟨o, ho, hx.2.1⟩, ?_⟩
  have I2 : Inv X pins σ H1 { s1 with heap := s1.heap.push { cls := .type "dict_values", data := .fields #[.ref d] } } := I1.kept (t' := s1.toks) fun b ob q => Heap.get?_push_of_some _ q
  have fin : wpAny (model X.prog X.w) X.A (pyIter (.ref s1.heap.objs.size)) (PIE X pins σ tg R) X.xe { s1 with heap := s1.heap.push { cls := .type "dict_values", data := .fields #[.ref d] } } := by
    refine wpAny_pyIter_values_raw (d := d) ⟨_, Heap.get?_push_size _ rfl, rfl, rfl⟩ (raw_of I2 hd) (pi_one (tk := s1.toks) I2 _ (turn_jv _ hk) ⟨_, Heap.get?_push_size _ rfl, rfl, ?_⟩ q)
    simp
  show wpAny _ _ (callWith cpos (.builtin "dict.values") [.ref d] [] []) _ X.xe s1
  exact method_meetsIn F.slot_dict_values F.entry_dict_values rfl (PySem.evalArgs_none ⟨rfl, rw1.typeIs, F.args_dict_values_1 _, _, meets_dict_values_raw d hs, ⟨_, _, rw1⟩, fin⟩)
def mItems (m : EM) : IM := fun τ h => (m τ h).bind fun src h1 => match src with
  | .dct kvs => .ok (fun _ => true, pairs kvs) h1
  | _ => .no
def mValues (m : EM) : IM := fun τ h => (m τ h).bind fun src h1 => match src with
  | .dct kvs => .ok (fun _ => true, kvs.map (·.2)) h1
  | _ => .no
theorem simI_items {elts : List Expr} {kk : Nat} {tpos apos cpos : Pos} (af : AfOk Af) (h : SimQ X Af e m) (hbase : attributeBase e "items" X.env (eval e X.env) = eval e X.env) (hline : (apos.endLine == cpos.line) = true) :
    SimI X Af (.Tuple elts kk tpos) (.Call (.Attribute e "items" apos) [] [] cpos) (mItems m) := by
  refine ⟨fun Wx tk => ⟨fun pins s σ H Rr I q => ?_⟩⟩
  obtain ⟨W0, H0, W, τ, hp, sr, g⟩ := q
  refine (pi_it (h.run Wx tk) hbase hline).run pins s σ H Rr I ⟨W0, H0, W, τ, hp, sr, Ko.step monoI g fun src h2 v W1 H1 hq2 e1 ok1 hr1 l g2 => ?_⟩
  split at g2
  · rename_i kvs
    obtain ⟨a, es, ep, rfl, nd, lv⟩ := l.dc kvs rfl
    obtain ⟨q1, q2⟩ := lv W1 H1 (af.rf _ _)
    obtain ⟨ks, vs, h3, h4, h5⟩ := q2.apart
    exact ⟨a, es, ep, rfl, q1, ks, vs, h5, g2 (Jp a es ep ks vs) W1 H1 (Ext.refl _ _) ok1 hr1 (itok_jp q2.len fun W' H' e' => ⟨(lv W' H' e').1, h3.ext (af.gr _ _ _ _ ok1 e'), h4.ext (af.gr _ _ _ _ ok1 e')⟩)⟩
  · exact g2.elim
theorem simI_values {apos cpos : Pos} (af : AfOk Af) (h : SimQ X Af e m) (hbase : attributeBase e "values" X.env (eval e X.env) = eval e X.env) (hline : (apos.endLine == cpos.line) = true) :
    SimI X Af tg (.Call (.Attribute e "values" apos) [] [] cpos) (mValues m) := by
  refine ⟨fun Wx tk => ⟨fun pins s σ H Rr I q => ?_⟩⟩
  obtain ⟨W0, H0, W, τ, hp, sr, g⟩ := q
  refine (pi_vl (h.run Wx tk) hbase hline).run pins s σ H Rr I ⟨W0, H0, W, τ, hp, sr, Ko.step monoI g fun src h2 v W1 H1 hq2 e1 ok1 hr1 l g2 => ?_⟩
  split at g2
  · rename_i kvs
    obtain ⟨a, es, ep, rfl, nd, lv⟩ := l.dc kvs rfl
    obtain ⟨q1, q2⟩ := lv W1 H1 (af.rf _ _)
    obtain ⟨ks, vs, h3, h4, h5⟩ := q2.apart
    exact ⟨a, es, ep, rfl, q1, vs, fun i e he => let ⟨x, y, z1, z2, z3, z4⟩ := h5 i e he; ⟨y, z2, z4⟩, g2 (Jk a es ep vs) W1 H1 (Ext.refl _ _) ok1 hr1 (itok_jk (by rw [List.length_map]; exact q2.len) fun W' H' e' => ⟨(lv W' H' e').1, h4.ext (af.gr _ _ _ _ ok1 e')⟩)⟩
  · exact g2.elim
end
/-! zip -/
/-- operands, each of which may be walked -/
inductive Livs (w : World) (K : PySem.W.Frag) (mg : Str → Option Value) (Af : AfR) (W : Wd) (H : Hp) : List D → List V → Prop
  | nil : Livs w K mg Af W H [] []
  | cons {d v ds vs} : Liv w K mg Af W H d v → Livs w K mg Af W H ds vs → Livs w K mg Af W H (d :: ds) (v :: vs)
def rLA (w : World) (K : PySem.W.Frag) (mg : Str → Option Value) (Af : AfR) : Rl (List D) (List V) := fun _ _ W H d v => Livs w K mg Af W H d v
structure SimAQ (X : Cx) (Af : AfR) (es : List Expr) (m : AM) : Prop where
  run : ∀ Wx, Takes X Wx → PA X es (Tg X (rLA X.w X.K X.mg Af) m Wx)
section
variable {X : Cx} {Af : AfR} {e a b c tg : Expr} {pos : Pos}
theorem livs_s {w : World} {K : PySem.W.Frag} {mg : Str → Option Value} {W : Wd} {H : Hp} (af : AfOk Af) (ok : WOk W H) : ∀ {ds : List D} {vs : List V}, RVs w K mg W H ds vs → Livs w K mg Af W H ds vs
  | _, _, .nil => .nil
  | _, _, .cons r t => .cons (liv_s af ok r) (livs_s af ok t)
theorem livs_w {w : World} {K : PySem.W.Frag} {mg : Str → Option Value} {W : Wd} {H : Hp} (ok : WOk W H) : ∀ {ds : List D} {vs : List V}, RWs w K mg W H ds vs → Livs w K mg Ext W H ds vs
  | _, _, .nil => .nil
  | _, _, .cons r t => .cons (liv_w ok r) (livs_w ok t)
theorem SimA.q {es : List Expr} {m : AM} (af : AfOk Af) (h : SimA X es m) : SimAQ X Af es m := ⟨fun Wx tk => PA.imp (h.run Wx tk) fun σ H Q ⟨W0, H0, W, τ, hp, s, g⟩ => ⟨W0, H0, W, τ, hp, s, by
  unfold Ko at g ⊢
  split at g
  · exact fun v W' H' e ok hr q => g v W' H' e ok hr (livs_s af ok q)
  · exact g
  · exact g⟩⟩
theorem SimAW.q {es : List Expr} {m : AM} (h : SimAW X es m) : SimAQ X Ext es m := ⟨fun Wx tk => PA.imp (h.run Wx tk) fun σ H Q ⟨W0, H0, W, τ, hp, s, g⟩ => ⟨W0, H0, W, τ, hp, s, by
  unfold Ko at g ⊢
  split at g
  · exact fun v W' H' e ok hr q => g v W' H' e ok hr (livs_w ok q)
  · exact g
  · exact g⟩⟩
def zipD : List D → List D → List D
  | a :: as, b :: bs => .tup [a, b] :: zipD as bs
  | _, _ => []
theorem zipD_eq : ∀ (as bs : List D), zipD as bs = (as.zip bs).map fun p => .tup [p.1, p.2]
  | [], _ => by simp [zipD]
  | _ :: _, [] => by simp [zipD]
  | a :: as, b :: bs => by rw [zipD, zipD_eq as bs]; rfl
theorem zipD_get {as bs : List D} {i : Nat} {d : D} (h : (zipD as bs)[i]? = some d) : ∃ x y, as[i]? = some x ∧ bs[i]? = some y ∧ d = .tup [x, y] := by
  rw [zipD_eq, List.getElem?_map, Option.map_eq_some_iff] at h
  obtain ⟨⟨x, y⟩, h1, h2⟩ := h
  rw [List.getElem?_zip_eq_some] at h1
  exact ⟨x, y, h1.1, h1.2, h2.symm⟩
theorem zipD_len {as bs : List D} {i : Nat} (h : (zipD as bs).length ≤ i) : as.length ≤ i ∨ bs.length ≤ i := by
  rw [zipD_eq, List.length_map, List.length_zip] at h
  omega
def zipB (ds : List D) (h : EH) : Option Src := match ds with
  | [x, y] => match der h x, der h y with
    | .lst as, .lst bs => some (fun h' => isAs x (.lst as) h' && isAs y (.lst bs) h', zipD as bs)
    | .tup as, .tup bs => some (fun h' => isAs x (.tup as) h' && isAs y (.tup bs) h', zipD as bs)
    | _, _ => none
  | _ => none
def mZip (m : AM) : IM := fun τ h => (m τ h).bind fun ds h1 => match zipB ds h1 with
  | some s => .ok s h1
  | none => .no
theorem pi_zp {e e2 : Expr} {ta : TA} {p tpos : Pos} {elts : List Expr} {kk : Nat} (hg : Gl X "zip") (hm : X.mg "zip" = none) (ha : PA X [e, e2] ta)
    (hs : starEach [e, e2] X.env = (false, eval e X.env) :: starEach [e2] X.env) (hpl : (backTo pos (starEach [e2] X.env)).any (·.1) = false) :
    PI X (.Tuple elts kk tpos) (.Call (.Name "zip" p) [e, e2] [] pos) (fun σ H R => ta σ H fun vs H1 => ∃ a b xs ys, vs = [.ref a, .ref b] ∧ ((SqL X.K H1 a xs ∧ SqL X.K H1 b ys ∧ R (Jzl X.K a b) H1) ∨ (SqT X.K H1 a xs ∧ SqT X.K H1 b ys ∧ R (Jzt X.K a b) H1))) := by
  refine ⟨fun pins s σ H R I h => Call_ (ld_blt I hg hm PyProof.Rows.boot_zip (PyProof.Rows.callWith_type1 (thn (ha.run pos pins s σ H _ I h) fun us s1 ⟨vs, H1, I1, r1, a, b, xs, ys, ex, q1⟩ => ?_) hs hpl))⟩
  subst ex
  obtain ⟨u1, u2, rfl, r2, r3⟩ := vals2 r1
  cases r2; cases r3
  have fr : ∀ c ∈ [s1.heap.objs.size + 4, s1.heap.objs.size + 2, s1.heap.objs.size + 3, s1.heap.objs.size, s1.heap.objs.size + 1], FpOk X pins H1 c := fun c hc => by
    have hle : s1.heap.objs.size ≤ c := by rcases five hc with z | z | z | z | z <;> rw [z] <;> first | exact Nat.le_refl _ | exact Nat.le_add_right _ _
    exact I1.fpOk hle (I1.hok.fresh hle)
  rcases q1 with ⟨qa, qb, q⟩ | ⟨qa, qb, q⟩
  · obtain ⟨ia, ra, pa, _⟩ := I1.list qa
    obtain ⟨ib, rb, pb, _⟩ := I1.list qb
    exact call_zip_2 pa.isList pb.isList fun h' t1 t2 t3 t4 t5 _ hk => wpAny_pyIter_zip t1 ⟨_, _, _, _, H1, rfl, I1.kept (t' := s1.toks) hk, turn_jzl (PySem.W.ktu_apart s1.heap.objs.size a b pa.lt pb.lt), ⟨t1, t2, ⟨_, _, t3⟩, t4, t5⟩, fr, q⟩
  · obtain ⟨ia, ra, pa, _⟩ := I1.tuple qa
    obtain ⟨ib, rb, pb, _⟩ := I1.tuple qb
    exact RZ.call_zipT (show s1.heap.IsTuple a ia.toArray from pa) (show s1.heap.IsTuple b ib.toArray from pb) fun h' t1 t2 t3 t4 t5 _ hk =>
      wpAny_pyIter_zip t1 ⟨_, _, _, _, H1, rfl, I1.kept (t' := s1.toks) hk, turn_jzt (PySem.W.ktu_apart s1.heap.objs.size a b pa.lt pb.lt), ⟨t1, t2, ⟨_, _, t3⟩, t4, t5⟩, fr, q⟩
theorem pi_en {e : Expr} {ta : TA} {p tpos : Pos} {elts : List Expr} {kk : Nat} (hg : Gl X "enumerate") (hm : X.mg "enumerate" = none) (ha : PA X [e] ta) (hs : starEach [e] X.env = [(false, eval e X.env)]) :
    PI X (.Tuple elts kk tpos) (.Call (.Name "enumerate" p) [e] [] pos) (fun σ H R => ta σ H fun vs H1 => ∃ a xs, vs = [.ref a] ∧ SqL X.K H1 a xs ∧ R (Jen X.K a) H1) := by
  refine ⟨fun pins s σ H R I h => Call_ (ld_blt I hg hm boot_enumerate (PyProof.Rows.callWith_type1 (thn (ha.run pos pins s σ H _ I h) fun us s1 ⟨vs, H1, I1, r1, a, xs, ex, qa, q⟩ => ?_) hs rfl))⟩
  subst ex
  obtain ⟨u1, rfl, r2⟩ := vals1 r1
  cases r2
  obtain ⟨ia, ra, pa, _⟩ := I1.list qa
  refine call_enumerate_list pa.isList fun h' t1 t2 _ hk => wpAny_pyIter_enum t1 ⟨_, [s1.heap.objs.size + 1, s1.heap.objs.size], _, _, H1, rfl, I1.kept (t' := s1.toks) hk, turn_jen a _ _, ⟨⟨.none, t1⟩, t2, Nat.succ_ne_self _⟩, fun b hb => ?_, q⟩
  have hle : s1.heap.objs.size ≤ b := by
    have e' : b = s1.heap.objs.size + 1 ∨ b = s1.heap.objs.size := by simpa using hb
    rcases e' with z | z <;> rw [z] <;> first | exact Nat.le_refl _ | exact Nat.le_add_right _ _
  exact I1.fpOk hle (I1.hok.fresh hle)
theorem itok_zl {w : World} {K : PySem.W.Frag} {mg : Str → Option Value} {W : Wd} {H : Hp} {x y : D} {as bs : List D} {a b : Addr} (l : Liv w K mg Af W H x (.ref a)) (l' : Liv w K mg Af W H y (.ref b)) :
    ItOk w K mg Af (Jzl K a b) (fun h' => isAs x (.lst as) h' && isAs y (.lst bs) h') (zipD as bs) W H where
  go := fun W' H' h' i d e ok hr hc hi => by
    rw [Bool.and_eq_true] at hc
    obtain ⟨a', vs, ha, q, r⟩ := (l.lv _ W' H' h' e ok hr (of_decide_eq_true hc.1)).lst
    cases ha
    obtain ⟨b', us, hb, q', r'⟩ := (l'.lv _ W' H' h' e ok hr (of_decide_eq_true hc.2)).lst
    cases hb
    obtain ⟨dx, dy, h1, h2, rfl⟩ := zipD_get hi
    obtain ⟨v, v1, v2⟩ := r.get h1
    obtain ⟨u, u1, u2⟩ := r'.get h2
    refine ⟨⟨vs, us, v, u, q, q', v1, u1⟩, fun z H'' ⟨T, oo, x', y', e1, e2, hdn, e3, e4, e5⟩ => ?_⟩
    subst e1; subst e3
    have z1 := e4 vs (q)
    rw [v1] at z1; cases z1
    have z2 := e5 us (q')
    rw [u1] at z2; cases z2
    have N := newP (w := w) (K := K) (mg := mg) (o := .frz oo (.tup [v, u])) ok e2
    exact ⟨_, N.ext, N.ok, N.hr _ hr, .tup (.inl ⟨.inr rfl, oo, upd_same, hdn⟩) (.cons (v2.ext (N.ext.gr ok)) (.cons (u2.ext (N.ext.gr ok)) .nil))⟩
  stop := fun W' H' h' i e ok hr hc hi => by
    rw [Bool.and_eq_true] at hc
    obtain ⟨a', vs, ha, q, r⟩ := (l.lv _ W' H' h' e ok hr (of_decide_eq_true hc.1)).lst
    cases ha
    obtain ⟨b', us, hb, q', r'⟩ := (l'.lv _ W' H' h' e ok hr (of_decide_eq_true hc.2)).lst
    cases hb
    exact ⟨vs, us, q, q', by rw [← r.length, ← r'.length]; exact zipD_len hi⟩
theorem itok_zt {w : World} {K : PySem.W.Frag} {mg : Str → Option Value} {W : Wd} {H : Hp} {x y : D} {as bs : List D} {a b : Addr} (l : Liv w K mg Af W H x (.ref a)) (l' : Liv w K mg Af W H y (.ref b)) :
    ItOk w K mg Af (Jzt K a b) (fun h' => isAs x (.tup as) h' && isAs y (.tup bs) h') (zipD as bs) W H where
  go := fun W' H' h' i d e ok hr hc hi => by
    rw [Bool.and_eq_true] at hc
    obtain ⟨a', vs, ha, q, r⟩ := (l.lv _ W' H' h' e ok hr (of_decide_eq_true hc.1)).tup
    cases ha
    obtain ⟨b', us, hb, q', r'⟩ := (l'.lv _ W' H' h' e ok hr (of_decide_eq_true hc.2)).tup
    cases hb
    obtain ⟨dx, dy, h1, h2, rfl⟩ := zipD_get hi
    obtain ⟨v, v1, v2⟩ := r.get h1
    obtain ⟨u, u1, u2⟩ := r'.get h2
    refine ⟨⟨vs, us, v, u, q, q', v1, u1⟩, fun z H'' ⟨T, oo, x', y', e1, e2, hdn, e3, e4, e5⟩ => ?_⟩
    subst e1; subst e3
    have z1 := e4 vs q
    rw [v1] at z1; cases z1
    have z2 := e5 us q'
    rw [u1] at z2; cases z2
    have N := newP (w := w) (K := K) (mg := mg) (o := .frz oo (.tup [v, u])) ok e2
    exact ⟨_, N.ext, N.ok, N.hr _ hr, .tup (.inl ⟨.inr rfl, oo, upd_same, hdn⟩) (.cons (v2.ext (N.ext.gr ok)) (.cons (u2.ext (N.ext.gr ok)) .nil))⟩
  stop := fun W' H' h' i e ok hr hc hi => by
    rw [Bool.and_eq_true] at hc
    obtain ⟨a', vs, ha, q, r⟩ := (l.lv _ W' H' h' e ok hr (of_decide_eq_true hc.1)).tup
    cases ha
    obtain ⟨b', us, hb, q', r'⟩ := (l'.lv _ W' H' h' e ok hr (of_decide_eq_true hc.2)).tup
    cases hb
    exact ⟨vs, us, q, q', by rw [← r.length, ← r'.length]; exact zipD_len hi⟩
theorem simI_zip {ma : AM} {p tpos : Pos} {elts : List Expr} {kk : Nat} (af : AfOk Af) (hg : Gl X "zip") (hm : X.mg "zip" = none) (ha : SimAQ X Af [a, b] ma)
    (hs : starEach [a, b] X.env = (false, eval a X.env) :: starEach [b] X.env) (hpl : (backTo pos (starEach [b] X.env)).any (·.1) = false) :
    SimI X Af (.Tuple elts kk tpos) (.Call (.Name "zip" p) [a, b] [] pos) (mZip ma) := by
  refine ⟨fun Wx tk => ⟨fun pins s σ H Rr I q => ?_⟩⟩
  obtain ⟨W0, H0, W, τ, hp, sr, g⟩ := q
  refine (pi_zp hg hm (ha.run Wx tk) hs hpl).run pins s σ H Rr I ⟨W0, H0, W, τ, hp, sr, Ko.step monoI g fun ds h2 v W1 H1 hq2 e1 ok1 hr1 l g2 => ?_⟩
  split at g2
  · rename_i r hr
    unfold zipB at hr
    split at hr
    · rename_i x y
      cases l with
      | cons l1 l2 =>
        cases l2 with
        | cons l2 l3 =>
          cases l3
          have r1 := RW.x l1.rw hr1
          have r2 := RW.x l2.rw hr1
          split at hr
          · rename_i as bs h3 h4
            cases hr
            rw [h3] at r1
            rw [h4] at r2
            obtain ⟨p1, vs, rfl, p2, p3⟩ := r1.lst
            obtain ⟨q1, us, rfl, q2, q3⟩ := r2.lst
            exact ⟨p1, q1, vs, us, rfl, .inl ⟨p2, q2, g2 _ W1 H1 (Ext.refl _ _) ok1 hr1 (itok_zl l1 l2)⟩⟩
          · rename_i as bs h3 h4
            cases hr
            rw [h3] at r1
            rw [h4] at r2
            obtain ⟨p1, vs, rfl, p2, p3⟩ := r1.tup
            obtain ⟨q1, us, rfl, q2, q3⟩ := r2.tup
            exact ⟨p1, q1, vs, us, rfl, .inr ⟨p2, q2, g2 _ W1 H1 (Ext.refl _ _) ok1 hr1 (itok_zt l1 l2)⟩⟩
          · cases hr
    · cases hr
  · exact g2.elim
/-! enumerate (of a list) -/
def numD : Nat → List D → List D
  | _, [] => []
  | n, d :: ds => .tup [.int n, d] :: numD (n + 1) ds
theorem numD_get : ∀ {ds : List D} {n i : Nat} {d : D}, (numD n ds)[i]? = some d → ∃ x, ds[i]? = some x ∧ d = .tup [.int ((n + i : Nat)), x]
  | [], n, i, d, h => by simp [numD] at h
  | e :: ds, n, 0, d, h => by
    simp only [numD, List.getElem?_cons_zero, Option.some.injEq] at h
    exact ⟨e, rfl, h.symm⟩
  | e :: ds, n, i + 1, d, h => by
    rw [numD, List.getElem?_cons_succ] at h
    obtain ⟨x, h1, h2⟩ := numD_get h
    exact ⟨x, by rw [List.getElem?_cons_succ]; exact h1, by rw [h2]; congr 4; omega⟩
theorem numD_len : ∀ {ds : List D} {n : Nat}, (numD n ds).length = ds.length
  | [], _ => rfl
  | _ :: ds, n => by rw [numD, List.length_cons, List.length_cons, numD_len]
def enumB (ds : List D) (h : EH) : Option Src := match ds with
  | [x] => match der h x with
    | .lst as => some (isAs x (.lst as), numD 0 as)
    | _ => none
  | _ => none
def mEnum (m : AM) : IM := fun τ h => (m τ h).bind fun ds h1 => match enumB ds h1 with
  | some s => .ok s h1
  | none => .no
theorem itok_en {w : World} {K : PySem.W.Frag} {mg : Str → Option Value} {W : Wd} {H : Hp} {x : D} {as : List D} {a : Addr} (l : Liv w K mg Af W H x (.ref a)) :
    ItOk w K mg Af (Jen K a) (isAs x (.lst as)) (numD 0 as) W H where
  go := fun W' H' h' i d e ok hr hc hi => by
    obtain ⟨a', vs, ha, q, r⟩ := (l.lv _ W' H' h' e ok hr (of_decide_eq_true hc)).lst
    cases ha
    obtain ⟨dx, h1, rfl⟩ := numD_get hi
    obtain ⟨v, v1, v2⟩ := r.get h1
    refine ⟨⟨vs, v, q, v1⟩, fun z H'' ⟨T, oo, x', e1, e2, hdn, e3, e4⟩ => ?_⟩
    subst e1; subst e3
    have z1 := e4 vs (q)
    rw [v1] at z1; cases z1
    have N := newP (w := w) (K := K) (mg := mg) (o := .frz oo (.tup [.int ((i : Nat) : Int), v])) ok e2
    refine ⟨_, N.ext, N.ok, N.hr _ hr, .tup (.inl ⟨.inr rfl, oo, upd_same, hdn⟩) (.cons ?_ (.cons (v2.ext (N.ext.gr ok)) .nil))⟩
    rw [Nat.zero_add]
    exact .int _
  stop := fun W' H' h' i e ok hr hc hi => by
    obtain ⟨a', vs, ha, q, r⟩ := (l.lv _ W' H' h' e ok hr (of_decide_eq_true hc)).lst
    cases ha
    exact ⟨vs, q, by rw [← r.length]; rw [numD_len] at hi; exact hi⟩
theorem simI_enum {ma : AM} {p tpos : Pos} {elts : List Expr} {kk : Nat} (hg : Gl X "enumerate") (hm : X.mg "enumerate" = none) (ha : SimAQ X Af [a] ma) (hs : starEach [a] X.env = [(false, eval a X.env)]) :
    SimI X Af (.Tuple elts kk tpos) (.Call (.Name "enumerate" p) [a] [] pos) (mEnum ma) := by
  refine ⟨fun Wx tk => ⟨fun pins s σ H Rr I q => ?_⟩⟩
  obtain ⟨W0, H0, W, τ, hp, sr, g⟩ := q
  refine (pi_en hg hm (ha.run Wx tk) hs).run pins s σ H Rr I ⟨W0, H0, W, τ, hp, sr, Ko.step monoI g fun ds h2 v W1 H1 hq2 e1 ok1 hr1 l g2 => ?_⟩
  split at g2
  · rename_i r hr
    unfold enumB at hr
    split at hr
    · rename_i x
      cases l with
      | cons l1 l2 =>
        cases l2
        have r1 := RW.x l1.rw hr1
        split at hr
        · rename_i as h3
          cases hr
          rw [h3] at r1
          obtain ⟨p1, vs, rfl, p2, p3⟩ := r1.lst
          exact ⟨p1, vs, rfl, p2, g2 _ W1 H1 (Ext.refl _ _) ok1 hr1 (itok_en l1)⟩
        · cases hr
    · cases hr
  · exact g2.elim
end
end Mp

set_option Elab.async false
set_option linter.all false
set_option maxRecDepth 100000
/-! Mp: targets; list comprehensions. -/
namespace Mp
open PySem PySem.Spec L2
open PyProof.Rows hiding St

/-! ### targets -/
mutual
inductive Tt where
  | nm (i : Nat) | tp (ts : Tts)
inductive Tts where
  | nil | cons (t : Tt) (ts : Tts)
end
def Tts.len : Tts → Nat
  | .nil => 0
  | .cons _ ts => ts.len + 1
mutual
def Tt.slots : Tt → List Nat
  | .nm i => [i]
  | .tp ts => ts.slots
def Tts.slots : Tts → List Nat
  | .nil => []
  | .cons t ts => t.slots ++ ts.slots
end
mutual
def gOf (K : PySem.W.Frag) : Tt → TG
  | .nm i => gName i
  | .tp ts => gTup K ts.len (gsOf K ts)
def gsOf (K : PySem.W.Frag) : Tts → TGs
  | .nil => gNil
  | .cons t ts => gCons (gOf K t) (gsOf K ts)
end
mutual
def fOf : Tt → D → Tu → Option Tu
  | .nm i, d, τ => some (τ.set i (.pu d))
  | .tp ts, .tup ds, τ => fsOf ts ds τ
  | .tp _, _, _ => none
def fsOf : Tts → List D → Tu → Option Tu
  | .nil, [], τ => some τ
  | .cons t ts, d :: ds, τ => (fOf t d τ).bind fun τ1 => fsOf ts ds τ1
  | _, _, _ => none
end
/-- two rows of slots, alike but for vs -/
def Agree (vs : List Nat) (σ σ' : L2.St) : Prop := σ.length = σ'.length ∧ ∀ i, i ∉ vs → σ[i]? = σ'[i]?
theorem Agree.rfl' {vs : List Nat} {σ : L2.St} : Agree vs σ σ := ⟨rfl, fun _ _ => rfl⟩
theorem Agree.trans {vs : List Nat} {σ σ1 σ2 : L2.St} (a : Agree vs σ σ1) (b : Agree vs σ1 σ2) : Agree vs σ σ2 := ⟨a.1.trans b.1, fun i hi => (a.2 i hi).trans (b.2 i hi)⟩
theorem Agree.sub {vs us : List Nat} {σ σ' : L2.St} (h : Agree vs σ σ') (hs : ∀ i ∈ vs, i ∈ us) : Agree us σ σ' := ⟨h.1, fun i hi => h.2 i fun z => hi (hs i z)⟩
theorem wipe_in {i : Nat} : ∀ {vs : List Nat} {σ : L2.St}, i ∈ vs → i < σ.length → (wipe σ vs)[i]? = some none
  | v :: vs, σ, h, hl => by
    unfold wipe
    by_cases e : v = i
    · subst e
      rw [List.getElem?_set_self (by rw [wipe_length]; exact hl)]
    · rw [List.getElem?_set_ne e]
      rcases List.mem_cons.mp h with z | z
      · exact absurd z.symm e
      · exact wipe_in z hl
theorem Agree.wipe {vs : List Nat} {σ : L2.St} : Agree vs σ (L2.wipe σ vs) := ⟨(wipe_length _ _).symm, fun i hi => (wipe_out hi).symm⟩
theorem Agree.eq {vs : List Nat} {σ σ' : L2.St} (h : Agree vs σ σ') : L2.wipe σ vs = L2.wipe σ' vs := by
  apply List.ext_getElem?
  intro i
  by_cases hi : i ∈ vs
  · by_cases hl : i < σ.length
    · rw [wipe_in hi hl, wipe_in hi (by rw [← h.1]; exact hl)]
    · rw [List.getElem?_eq_none (by rw [wipe_length]; omega), List.getElem?_eq_none (by rw [wipe_length, ← h.1]; omega)]
  · rw [wipe_out hi, wipe_out hi, h.2 i hi]
section
variable {w : World} {K : PySem.W.Frag} {mg : Str → Option Value} {W0 W W1 : Wd} {H0 H H1 : Hp} {τ : Tu} {σ : L2.St} {h : EH}
theorem SR.set (s : SR w K mg W0 H0 W H τ σ h) (i : Nat) {d : D} {v : V} (r : RV w K mg W H d v) : SR w K mg W0 H0 W H (τ.set i (.pu d)) (σ.set i (some v)) h where
  ok0 := s.ok0
  ok := s.ok
  hr := s.hr
  ext := s.ext
  len := by rw [List.length_set, List.length_set]; exact s.len
  pu := fun j e q => by
    by_cases hj : i = j
    · subst hj
      rw [List.getElem?_set] at q
      split at q
      · split at q
        · rename_i hl
          cases q
          exact ⟨v, by rw [List.getElem?_set_self (by rw [← s.len]; exact hl)], r⟩
        · cases q
      · rename_i n; exact absurd rfl n
    · rw [List.getElem?_set_ne hj] at q
      rw [List.getElem?_set_ne hj]
      exact s.pu j e q
  ow := fun j e q => by
    by_cases hj : i = j
    · subst hj
      rw [List.getElem?_set] at q
      split at q
      · split at q
        · cases q
        · cases q
      · rename_i n; exact absurd rfl n
    · rw [List.getElem?_set_ne hj] at q
      rw [List.getElem?_set_ne hj]
      exact s.ow j e q
  sep := fun j k e f a hjk q1 q2 q3 => by
    have nj : i ≠ j := fun z => by
      subst z
      rw [List.getElem?_set] at q1
      split at q1
      · split at q1 <;> cases q1
      · rename_i n; exact n rfl
    have nk : i ≠ k := fun z => by
      subst z
      rw [List.getElem?_set] at q2
      split at q2
      · split at q2 <;> cases q2
      · rename_i n; exact n rfl
    rw [List.getElem?_set_ne nj] at q1 q3
    rw [List.getElem?_set_ne nk] at q2
    rw [List.getElem?_set_ne nk]
    exact s.sep j k e f a hjk q1 q2 q3
theorem SR.em (s : SR w K mg W0 H0 W H τ σ h) (i : Nat) (o : Option V) : SR w K mg W0 H0 W H (τ.set i .em) (σ.set i o) h where
  ok0 := s.ok0
  ok := s.ok
  hr := s.hr
  ext := s.ext
  len := by rw [List.length_set, List.length_set]; exact s.len
  pu := fun j e q => by
    by_cases hj : i = j
    · subst hj
      rw [List.getElem?_set] at q
      split at q
      · split at q <;> cases q
      · rename_i n; exact absurd rfl n
    · rw [List.getElem?_set_ne hj] at q
      rw [List.getElem?_set_ne hj]
      exact s.pu j e q
  ow := fun j e q => by
    by_cases hj : i = j
    · subst hj
      rw [List.getElem?_set] at q
      split at q
      · split at q <;> cases q
      · rename_i n; exact absurd rfl n
    · rw [List.getElem?_set_ne hj] at q
      rw [List.getElem?_set_ne hj]
      exact s.ow j e q
  sep := fun j k e f a hjk q1 q2 q3 => by
    have nj : i ≠ j := fun z => by
      subst z
      rw [List.getElem?_set] at q1
      split at q1
      · split at q1 <;> cases q1
      · rename_i n; exact n rfl
    have nk : i ≠ k := fun z => by
      subst z
      rw [List.getElem?_set] at q2
      split at q2
      · split at q2 <;> cases q2
      · rename_i n; exact n rfl
    rw [List.getElem?_set_ne nj] at q1 q3
    rw [List.getElem?_set_ne nk] at q2
    rw [List.getElem?_set_ne nk]
    exact s.sep j k e f a hjk q1 q2 q3
def wipeT (τ : Tu) : List Nat → Tu
  | [] => τ
  | v :: vs => (wipeT τ vs).set v .em
theorem SR.wipe (s : SR w K mg W0 H0 W H τ σ h) : ∀ vs : List Nat, SR w K mg W0 H0 W H (wipeT τ vs) (L2.wipe σ vs) h
  | [] => s
  | v :: vs => (s.wipe vs).em v none
mutual
theorem g_sound : ∀ (t : Tt) {d : D} {v : V} {τ τ' : Tu} {σ : L2.St} {Q : L2.St → Hp → Prop}, SR w K mg W0 H0 W H τ σ h → RV w K mg W H d v → fOf t d τ = some τ' →
    (∀ σ', SR w K mg W0 H0 W H τ' σ' h → Agree t.slots σ σ' → Q σ' H) → gOf K t v σ H Q
  | .nm i, d, v, τ, τ', σ, Q, s, r, e, k => by
    simp only [fOf, Option.some.injEq] at e
    subst e
    exact k _ (s.set i r) ⟨by rw [List.length_set], fun j hj => by rw [List.getElem?_set_ne (fun z => hj (by rw [z]; simp [Tt.slots]))]⟩
  | .tp ts, d, v, τ, τ', σ, Q, s, r, e, k => by
    cases d with
    | tup ds =>
      rw [fOf] at e
      cases r with
      | tup p r =>
        refine ⟨_, _, rfl, p.sq, ?_, gs_sound ts s r e k⟩
        rw [← r.length]
        exact fs_len ts e
    | _ => simp [fOf] at e
theorem gs_sound : ∀ (ts : Tts) {ds : List D} {vs : List V} {τ τ' : Tu} {σ : L2.St} {Q : L2.St → Hp → Prop}, SR w K mg W0 H0 W H τ σ h → RVs w K mg W H ds vs → fsOf ts ds τ = some τ' →
    (∀ σ', SR w K mg W0 H0 W H τ' σ' h → Agree ts.slots σ σ' → Q σ' H) → gsOf K ts vs σ H Q
  | .nil, ds, vs, τ, τ', σ, Q, s, r, e, k => by
    cases r with
    | nil =>
      simp only [fsOf, Option.some.injEq] at e
      subst e
      exact ⟨rfl, k _ s Agree.rfl'⟩
    | cons _ _ => simp [fsOf] at e
  | .cons t ts, ds, vs, τ, τ', σ, Q, s, r, e, k => by
    cases r with
    | nil => simp [fsOf] at e
    | cons r1 r2 =>
      rw [fsOf, Option.bind_eq_some_iff] at e
      obtain ⟨τ1, e1, e2⟩ := e
      exact ⟨_, _, rfl, g_sound t s r1 e1 fun σ1 s1 a1 => gs_sound ts s1 r2 e2 fun σ2 s2 a2 => k σ2 s2 ((a1.sub fun i hi => by simp [Tts.slots, hi]).trans (a2.sub fun i hi => by simp [Tts.slots, hi]))⟩
theorem fs_len : ∀ (ts : Tts) {ds : List D} {τ τ' : Tu}, fsOf ts ds τ = some τ' → ds.length = ts.len
  | .nil, [], _, _, _ => rfl
  | .nil, _ :: _, _, _, e => by simp [fsOf] at e
  | .cons _ _, [], _, _, e => by simp [fsOf] at e
  | .cons t ts, d :: ds, τ, τ', e => by
    rw [fsOf, Option.bind_eq_some_iff] at e
    obtain ⟨τ1, _, e2⟩ := e
    rw [List.length_cons, Tts.len, fs_len ts e2]
end
/-! ### a container that is written -/
theorem Ext.upd' (e : Ext W H W1 H1) {a : Addr} {o : HO} (ha : H a = none) : Ext W H W1 (upd H1 a o) := ⟨e.mu, e.pp, fun b u q hm => by
  have : b ≠ a := fun z => by rw [z, ha] at q; cases q
  rw [upd_ne this]; exact e.keep b u q hm, e.newP, e.newM⟩
theorem WOk.upd' (ok : WOk W H) (a : Addr) (o : HO) : WOk W (upd H a o) where
  p := fun b hb => by
    by_cases e : b = a
    · subst e; rw [upd_same]; exact fun z => nomatch z
    · rw [upd_ne e]; exact ok.p b hb
  m := fun b hb => ⟨by
    by_cases e : b = a
    · subst e; rw [upd_same]; exact fun z => nomatch z
    · rw [upd_ne e]; exact (ok.m b hb).1, (ok.m b hb).2⟩
  nd := ok.nd
theorem Gr.upd' {a : Addr} {o : HO} (hp : ¬ W.P a) : Gr W H W (upd H a o) := ⟨⟨[], by simp⟩, fun _ z => z, fun b u q hb => by
  have : b ≠ a := fun z => hp (z ▸ hb)
  rw [upd_ne this]; exact q⟩
theorem Rd.upd' {a b : Addr} {o u : HO} (h : Rd H b u) (hn : b ≠ a) : Rd (upd H a o) b u := by
  unfold Rd at h ⊢
  rw [upd_ne hn]; exact h
theorem HR.upd' {a : Addr} {o : HO} (hr : HR w K mg W H h) (hm : a ∉ W.μ) (hp : ¬ W.P a) : HR w K mg W (upd H a o) h := ⟨hr.len, fun n x b h1 h2 => by
  have hb : b ≠ a := fun z => hm (z ▸ List.mem_of_getElem? h2)
  have g : Gr W H W (upd H a o) := Gr.upd' hp
  have q := hr.at_ n x b h1 h2
  cases q with
  | lst q r => exact .lst (by rw [upd_ne hb]; exact q) (r.ext g)
  | fz q r => exact .fz (Rd.upd' q hb) (r.ext g)
  | dct q n r => exact .dct (by rw [upd_ne hb]; exact q) n (r.ext g)
  | ins q r s => exact .ins q (by rw [upd_ne hb]; exact r) (s.ext g)⟩
end

/-! ### comprehensions -/
def lcGo (chk : EH → Bool) (blk : D → EH → R (List D)) : List D → EH → R (List D)
  | [], h => if chk h = true then .ok [] h else .no
  | d :: ds, h => if chk h = true then (blk d h).bind fun ys h1 => (lcGo chk blk ds h1).bind fun zs h2 => .ok (ys ++ zs) h2 else .no
def lcB (t : Tt) (τ : Tu) (mt : BM) (me : EM) (d : D) (h : EH) : R (List D) := match fOf t d τ with
  | some τ1 => (mt τ1 h).bind fun b h1 => if b = true then (me τ1 h1).bind fun y h2 => .ok [y] h2 else .ok [] h1
  | none => .no
def lcEnd (r : R (List D)) : R Sl := match r with
  | .ok zs h => if zs.length ≤ L then .ok (.ow (.lst zs)) h else .no
  | _ => .no
def mLc (mi : IM) (t : Tt) (vs : List Nat) (mt : BM) (me : EM) : FM := fun τ h => (mi τ h).bind fun s h1 => lcEnd (lcGo s.1 (lcB t (wipeT τ vs) mt me) s.2 h1)
structure SimTs (X : Cx) (ifs : List Expr) (m : BM) : Prop where
  run : ∀ Wx, Takes X Wx → PTs X ifs (Tg X rB m Wx)
def mYes : BM := fun _ h => .ok true h
theorem simTs_nil {X : Cx} : SimTs X [] mYes := ⟨fun Wx tk => ⟨fun pins s σ H Q I ⟨W0, H0, W, τ, hp, sr, g⟩ => pts_nil.run pins s σ H Q I (g true W H (Ext.refl _ _) sr.ok sr.hr rfl)⟩⟩
theorem simTs_one {X : Cx} {c : Expr} {m : BM} (h : SimT X c m) : SimTs X [c] m := ⟨fun Wx tk => pts_one (h.run Wx tk)⟩
theorem R.bind_ok {α β : Type} {r : R α} {k : α → EH → R β} {b : β} {h : EH} (e : r.bind k = .ok b h) : ∃ a h1, r = .ok a h1 ∧ k a h1 = .ok b h := by
  cases r with
  | ok a h1 => exact ⟨a, h1, rfl, e⟩
  | exc _ _ => cases e
  | no => cases e
theorem takes_blk {X : Cx} {s : Shared} {H : Hp} {scope : Scope} {cenv : Env} {fp : List Addr} : Takes (X.blk s H scope cenv fp) (fun _ _ _ _ => False) := fun u s' ⟨a, B, sI, pins, σ, H, cls, d, e, I, nb, up, sky, na, os, ag, w⟩ => w
/-- the loop's state: at turn i with what is yet to come -/
structure LcS (w : World) (K : PySem.W.Frag) (mg : Str → Option Value) (W1 : Wd) (H1 : Hp) (Dd : Addr) (chk : EH → Bool) (blk : D → EH → R (List D)) (ds : List D) (fin : List D) (hf : EH) (i m : Nat) (H : Hp) : Prop where
  hm : m = ds.length - i
  ex : ∃ (Wi : Wd) (hi : EH) (acc : List D) (av : List V) (zs : List D), Ext W1 H1 Wi H ∧ WOk Wi H ∧ HR w K mg Wi H hi ∧ H Dd = some (.lst av) ∧ RVs w K mg Wi H acc av ∧ Dd ∉ Wi.μ ∧ ¬ Wi.P Dd ∧ lcGo chk blk (ds.drop i) hi = .ok zs hf ∧ acc ++ zs = fin
section
variable {X : Cx} {elt tg iter : Expr} {ifs : List Expr} {scope : Scope} {own : List (Str × Nat)} {pos : Pos} {mi : IM} {t : Tt} {mt : BM} {me : EM}
theorem lc_sound {Wx : WX} {σ : L2.St} {H : Hp} {Q : VK} (hsl : ∀ i ∈ t.slots, i ∈ own.map (·.2)) (q : Tg X (rF X.w X.K X.mg) (mLc mi t (own.map (·.2)) mt me) Wx σ H Q) :
    tLc (Tg X (rI X.w X.K X.mg Ext) mi Wx) (gOf X.K t) (Tg X rB mt fun _ _ _ _ => False) (Tg X (rS X.w X.K X.mg) me fun _ _ _ _ => False) (own.map (·.2)) σ H Q := by
  generalize own.map (·.2) = vs at hsl q
  obtain ⟨W0, H0, W, τ, h0, sr, g⟩ := q
  refine ⟨W0, H0, W, τ, h0, sr, Ko.step monoF g fun s h1 J W1 H1 hs1 e1 ok1 hr1 it g1 => ?_⟩
  intro Dd hD
  have sr1 := sr.step e1 ok1 hr1
  cases hq : lcGo s.1 (lcB t (wipeT τ vs) mt me) s.2 h1 with
  | no => rw [hq] at g1; exact g1.elim
  | exc _ _ => rw [hq] at g1; exact g1.elim
  | ok fin hf =>
    rw [hq] at g1
    unfold lcEnd at g1
    simp only at g1
    split at g1
    case isFalse => exact g1.elim
    rename_i hlen
    obtain ⟨chk, ds⟩ := s
    simp only at hq it
    refine ⟨LcS X.w X.K X.mg W1 H1 Dd chk (lcB t (wipeT τ vs) mt me) ds fin hf, ⟨ds.length, by simp, ?_⟩, ?_⟩
    · have N := newF (w := X.w) (K := X.K) (mg := X.mg) (o := .lst []) ok1 hD
      exact ⟨W1, h1, [], [], fin, N.ext, N.ok, N.hr _ hr1, upd_same, .nil, N.nm, N.np, by simpa using hq, rfl⟩
    · intro i m Hi st
      obtain ⟨hm, Wi, hi, acc, av, zs, e2, ok2, hr2, hd2, ra2, nm2, np2, hgo, hfin⟩ := st
      cases hx : ds[i]? with
      | none =>
        have hi2 : ds.length ≤ i := List.getElem?_eq_none_iff.mp hx
        rw [List.drop_eq_nil_of_le hi2] at hgo
        unfold lcGo at hgo
        split at hgo
        · rename_i hc
          cases hgo
          refine .inl ⟨it.stop Wi Hi hf i e2 ok2 hr2 hc hi2, ?_⟩
          rw [List.append_nil] at hfin
          subst hfin
          exact g1 (.ref Dd) Wi Hi e2 ok2 hr2 ⟨Dd, rfl, hD, nm2, np2, .lst hd2 ra2⟩
        · cases hgo
      | some d =>
        have hi2 := (List.getElem?_eq_some_iff.mp hx).1
        have hdr : ds.drop i = d :: ds.drop (i + 1) := by
          rw [List.drop_eq_getElem_cons hi2, (List.getElem?_eq_some_iff.mp hx).2]
        rw [hdr] at hgo
        unfold lcGo at hgo
        split at hgo
        case isFalse => cases hgo
        rename_i hc
        obtain ⟨ys, hh1, hb1, hgo⟩ := R.bind_ok hgo
        obtain ⟨zs', hh2, hb2, hgo⟩ := R.bind_ok hgo
        cases hgo
        obtain ⟨jgo, jy⟩ := it.go Wi Hi hi i d e2 ok2 hr2 hc hx
        refine .inr ⟨jgo, LcS X.w X.K X.mg W1 H1 Dd chk (lcB t (wipeT τ vs) mt me) ds fin hf (i + 1) (ds.length - (i + 1)), fun H' n => ⟨_, by omega, n⟩, fun x H'' hy => ?_⟩
        obtain ⟨W3, e3, ok3, hr3, rx⟩ := jy x H'' hy
        have e13 := e2.trans ok2 e3
        have sr3 := sr1.step e13 ok3 hr3
        have dn : ∀ {Ha : Hp}, Ha Dd = some (.lst av) → Ha Dd ≠ none := fun z => by rw [z]; exact fun y => nomatch y
        have hd3 := e3.keep Dd _ hd2 nm2
        have nm3 : Dd ∉ W3.μ := fun z => nm2 (e3.newM Dd (dn hd2) z)
        have np3 : ¬ W3.P Dd := fun z => np2 (e3.newP Dd (dn hd2) z)
        have ra3 := ra2.ext (e3.gr ok2)
        unfold lcB at hb1
        split at hb1
        · rename_i τ1 ht
          refine g_sound t (sr3.wipe vs) rx ht fun σ2 sr4 ag => ⟨?_, ?_⟩
          · rw [← (ag.sub hsl).eq, ← (Agree.wipe (vs := vs) (σ := σ)).eq]
          obtain ⟨b, hh3, hb3, hb4⟩ := R.bind_ok hb1
          refine ⟨W0, H0, W3, τ1, hi, sr4, ?_⟩
          rw [hb3]
          intro b' W5 H5 e5 ok5 hr5 rb
          cases rb
          have hd5 := e5.keep Dd _ hd3 nm3
          have nm5 : Dd ∉ W5.μ := fun z => nm3 (e5.newM Dd (dn hd3) z)
          have np5 : ¬ W5.P Dd := fun z => np3 (e5.newP Dd (dn hd3) z)
          have ra5 := ra3.ext (e5.gr ok3)
          split at hb4
          · rename_i hbt
            rw [if_pos hbt]
            obtain ⟨y, hh4, hb5, hb6⟩ := R.bind_ok hb4
            cases hb6
            refine ⟨W0, H0, W5, τ1, hh3, sr4.step e5 ok5 hr5, ?_⟩
            rw [hb5]
            intro yv W6 H6 e6 ok6 hr6 ry
            have hd6 := e6.keep Dd _ hd5 nm5
            have nm6 : Dd ∉ W6.μ := fun z => nm5 (e6.newM Dd (dn hd5) z)
            have np6 : ¬ W6.P Dd := fun z => np5 (e6.newP Dd (dn hd5) z)
            have ra6 := ra5.ext (e6.gr ok5)
            have hlen2 : av.length < sizeLine := by
              rw [← ra6.length, ← L_eq]
              have : acc.length < fin.length := by rw [← hfin]; simp
              omega
            refine ⟨av, hd6, hlen2, rfl, ?_⟩
            have e16 := (e13.trans ok3 e5).trans ok5 e6
            have g6 : Gr W6 H6 W6 (upd H6 Dd (.lst (av ++ [yv]))) := Gr.upd' np6
            exact ⟨W6, _, acc ++ [y], av ++ [yv], zs', e16.upd' hD, ok6.upd' _ _, hr6.upd' nm6 np6, upd_same, (ra6.ext g6).append (.cons (RV.ext g6 ry) .nil), nm6, np6, hb2, by rw [← hfin]; simp⟩
          · rename_i hbt
            rw [if_neg hbt]
            cases hb4
            exact ⟨rfl, W5, _, acc, av, zs', e13.trans ok3 e5, ok5, hr5, hd5, ra5, nm5, np5, hb2, by rw [← hfin]; simp⟩
        · cases hb1
theorem simF_lc (hc : X.calm = true) (hN : X.N.Nodup) (hi : SimI X Ext tg iter mi) (ok : BlkOk X.N X.env.scope scope own) (hsl : ∀ i ∈ t.slots, i ∈ own.map (·.2))
    (hg : ∀ (s : Shared) (H : Hp) (C : Addr) (cl : List (Str × Addr)) (fp : List Addr), PG (X.blk s H scope (compEnvC scope cl C X.env) fp) tg (gOf X.K t))
    (ht : ∀ (s : Shared) (H : Hp) (C : Addr) (cl : List (Str × Addr)) (fp : List Addr), SimTs (X.blk s H scope (compEnvC scope cl C X.env) fp) ifs mt)
    (he : ∀ (s : Shared) (H : Hp) (C : Addr) (cl : List (Str × Addr)) (fp : List Addr), SimE (X.blk s H scope (compEnvC scope cl C X.env) fp) elt me) (hs : ∀ x, foldedSetIterable iter X.env x = pure x) :
    SimF X (.ListComp elt [⟨tg, iter, ifs, 0⟩] scope pos) (mLc mi t (own.map (·.2)) mt me) :=
  ⟨fun Wx tk => PE.imp (pe_lc hc hN (hi.run Wx tk) ok hg (fun s H C cl fp => (ht s H C cl fp).run _ takes_blk) (fun s H C cl fp => (he s H C cl fp).run _ takes_blk) hs) fun σ H Q q => lc_sound hsl q⟩
end
end Mp

set_option Elab.async false
set_option linter.all false
set_option maxRecDepth 100000
/-! Mp: statements. -/
namespace Mp
open PySem PySem.Spec L2
open PyProof.Rows hiding St

inductive Sz where
  | nx (τ : Tu) (h : EH) | ret (s : Sl) (h : EH) | brk (τ : Tu) (h : EH) | cnt (τ : Tu) (h : EH) | exc (x : Xc) (τ : Tu) (h : EH) | no
abbrev SM := Tu → EH → Sz
def Sz.bind (r : Sz) (k : SM) : Sz := match r with
  | .nx τ h => k τ h
  | .ret s h => .ret s h
  | .brk τ h => .brk τ h
  | .cnt τ h => .cnt τ h
  | .exc x τ h => .exc x τ h
  | .no => .no
def R.thn {α : Type} (r : R α) (τ : Tu) (k : α → EH → Sz) : Sz := match r with
  | .ok a h => k a h
  | .exc x h => .exc x τ h
  | .no => .no
section
variable (w : World) (K : PySem.W.Frag) (mg : Str → Option Value)
def KoS (W0 : Wd) (H0 : Hp) (W : Wd) (H : Hp) (Wx : WX) (r : Sz) (D : Ends) : Prop := match r with
  | .nx τ' h' => ∀ σ' W' H', Gr W H W' H' → SR w K mg W0 H0 W' H' τ' σ' h' → D.nx σ' H'
  | .brk τ' h' => ∀ σ' W' H', Gr W H W' H' → SR w K mg W0 H0 W' H' τ' σ' h' → D.bk σ' H'
  | .cnt τ' h' => ∀ σ' W' H', Gr W H W' H' → SR w K mg W0 H0 W' H' τ' σ' h' → D.ct σ' H'
  | .ret s h' => ∀ v W' H', Ext W0 H0 W' H' → WOk W' H' → HR w K mg W' H' h' → rF w K mg W0 H0 W' H' s v → D.rt v H'
  | .exc x τ' h' => ∀ cls dd σ' W' H', Gr W H W' H' → SR w K mg W0 H0 W' H' τ' σ' h' → ExcR w K mg W' H' x cls dd → Wx cls dd σ' H'
  | .no => False
end
def TSm (X : Cx) (m : SM) (Wx : WX) : TS := fun D σ H => ∃ W0 H0 W τ h, SR X.w X.K X.mg W0 H0 W H τ σ h ∧ KoS X.w X.K X.mg W0 H0 W H Wx (m τ h) D
structure SimS (X : Cx) (st : Stmt) (m : SM) : Prop where
  run : ∀ Wx, Takes X Wx → PS X st (TSm X m Wx)
structure SimSs (X : Cx) (st : List Stmt) (m : SM) : Prop where
  run : ∀ Wx, Takes X Wx → PSs X st (TSm X m Wx)
section
variable {w : World} {K : PySem.W.Frag} {mg : Str → Option Value} {W0 W W1 : Wd} {H0 H H1 : Hp} {τ : Tu} {σ : L2.St} {h h1 : EH} {Wx : WX} {D : Ends}
theorem KoS.at {r : Sz} (g : Gr W H W1 H1) (k : KoS w K mg W0 H0 W H Wx r D) : KoS w K mg W0 H0 W1 H1 Wx r D := by
  cases r with
  | nx τ' h' => exact fun σ' W' H' e s => k σ' W' H' (g.trans e) s
  | brk τ' h' => exact fun σ' W' H' e s => k σ' W' H' (g.trans e) s
  | cnt τ' h' => exact fun σ' W' H' e s => k σ' W' H' (g.trans e) s
  | exc x τ' h' => exact fun cls dd σ' W' H' e s q => k cls dd σ' W' H' (g.trans e) s q
  | ret s h' => exact k
  | no => exact k
theorem KoS.bind {r : Sz} {k : SM} {u : Ends → L2.St → Hp → Prop} (g : KoS w K mg W0 H0 W H Wx (r.bind k) D)
    (go : ∀ τ' h' σ' W' H', Gr W H W' H' → SR w K mg W0 H0 W' H' τ' σ' h' → KoS w K mg W0 H0 W' H' Wx (k τ' h') D → u D σ' H') : KoS w K mg W0 H0 W H Wx r { D with nx := u D } := by
  cases r with
  | nx τ' h' => exact fun σ' W' H' e s => go τ' h' σ' W' H' e s (KoS.at e g)
  | brk τ' h' => exact g
  | cnt τ' h' => exact g
  | exc x τ' h' => exact g
  | ret s h' => exact g
  | no => exact g
theorem KoS.thn {α β : Type} {rel : Rl α β} {r : R α} {k : α → EH → Sz} {Q : β → Hp → Prop} (sr : SR w K mg W0 H0 W H τ σ h) (g : KoS w K mg W0 H0 W H Wx (r.thn τ k) D)
    (go : ∀ d h1 v W1 H1, r = .ok d h1 → Ext W H W1 H1 → SR w K mg W0 H0 W1 H1 τ σ h1 → rel W H W1 H1 d v → KoS w K mg W0 H0 W1 H1 Wx (k d h1) D → Q v H1) : Ko w K mg rel W H (fun c d H => Wx c d σ H) r Q := by
  cases r with
  | ok d h1 => exact fun v W1 H1 e ok hr q => go d h1 v W1 H1 rfl e (sr.step e ok hr) q (KoS.at (e.gr sr.ok) g)
  | exc x h1 => exact fun cls dd W1 H1 e ok hr q => g cls dd σ W1 H1 (e.gr sr.ok) (sr.step e ok hr) q
  | no => exact g
end
section
variable {X : Cx} {e a b c tg : Expr} {pos : Pos} {st : Stmt} {sts : List Stmt} {m n : SM}
def mNext : SM := fun τ h => .nx τ h
def mSeq (m n : SM) : SM := fun τ h => (m τ h).bind n
theorem simSs_nil : SimSs X [] mNext := ⟨fun Wx _ => PSs.imp pss_nil fun D σ H ⟨W0, H0, W, τ, h, sr, g⟩ => g σ W H (Gr.refl _ _) sr⟩
theorem simSs_cons (hm : SimS X st m) (hn : SimSs X sts n) : SimSs X (st :: sts) (mSeq m n) := ⟨fun Wx tk => PSs.imp (pss_cons (hm.run Wx tk) (hn.run Wx tk)) fun D σ H ⟨W0, H0, W, τ, h, sr, g⟩ =>
  ⟨W0, H0, W, τ, h, sr, KoS.bind g fun τ' h' σ' W' H' _ s k => ⟨W0, H0, W', τ', h', s, k⟩⟩⟩
theorem simSs_one (hm : SimS X st m) : SimSs X [st] m := ⟨fun Wx tk => pss_one (hm.run Wx tk)⟩
theorem simS_pass : SimS X (.Pass pos) mNext := ⟨fun Wx _ => PS.imp ps_pass fun D σ H ⟨W0, H0, W, τ, h, sr, g⟩ => g σ W H (Gr.refl _ _) sr⟩
theorem simS_doc {x j pos'} : SimS X (.Expr (.Constant (.str x) j pos) pos') mNext := ⟨fun Wx _ => PS.imp ps_doc fun D σ H ⟨W0, H0, W, τ, h, sr, g⟩ => g σ W H (Gr.refl _ _) sr⟩
def mBrk : SM := fun τ h => .brk τ h
def mCnt : SM := fun τ h => .cnt τ h
theorem simS_brk : SimS X (.Break pos) mBrk := ⟨fun Wx _ => PS.imp ps_break fun D σ H ⟨W0, H0, W, τ, h, sr, g⟩ => g σ W H (Gr.refl _ _) sr⟩
theorem simS_cnt : SimS X (.Continue pos) mCnt := ⟨fun Wx _ => PS.imp ps_continue fun D σ H ⟨W0, H0, W, τ, h, sr, g⟩ => g σ W H (Gr.refl _ _) sr⟩
/-! an expression's value dropped, returned, stored -/
def mDrop (m : EM) : SM := fun τ h => (m τ h).thn τ fun _ h1 => .nx τ h1
theorem simS_drop {m : EM} (he : SimW X e m) (hs : swapsWith e none pos.line X.env = pure false) : SimS X (.Expr e pos) (mDrop m) := ⟨fun Wx tk => PS.imp (ps_expr (he.run Wx tk) hs) fun D σ H ⟨W0, H0, W, τ, h, sr, g⟩ =>
  ⟨W0, H0, W, τ, h, sr, KoS.thn sr g fun d h1 v W1 H1 _ e1 sr1 _ k => k σ W1 H1 (Gr.refl _ _) sr1⟩⟩
def mRet (m : FM) : SM := fun τ h => (m τ h).thn τ fun s h1 => .ret s h1
theorem simS_ret {m : FM} (he : SimF X e m) : SimS X (.Return (some e) pos) (mRet m) := ⟨fun Wx tk => PS.imp (ps_ret (he.run Wx tk)) fun D σ H ⟨W0, H0, W, τ, h, sr, g⟩ =>
  ⟨W0, H0, W, τ, h, sr, KoS.thn sr g fun d h1 v W1 H1 _ e1 sr1 q k => k v W1 H1 sr1.ext sr1.ok sr1.hr (monoF W0 H0 W H W1 H1 d v sr.ext sr.ok q)⟩⟩
def mRetN : SM := fun _ h => .ret (.pu .non) h
theorem simS_retN : SimS X (.Return none pos) mRetN := ⟨fun Wx _ => PS.imp ps_retN fun D σ H ⟨W0, H0, W, τ, h, sr, g⟩ => g .non W H sr.ext sr.ok sr.hr .non⟩
/-- a name returned, its container may be one's own -/
def mRetV (i : Nat) : SM := fun τ h => match τ[i]? with
  | some (.pu d) => .ret (.pu d) h
  | some (.ow d) => .ret (.ow d) h
  | _ => .no
theorem simS_retV {i : Nat} {x : Str} {p : Pos} (hN : X.N[i]? = some x) (hv : Vis X.env.scope x) (hd : (x == ("__debug__" : Str)) = false) (hcd : (x == ("__classdict__" : Str)) = false) : SimS X (.Return (some (.Name x p)) pos) (mRetV i) :=
  ⟨fun Wx _ => PS.imp (ps_ret (pe_var hN hv hd hcd)) fun D σ H ⟨W0, H0, W, τ, h, sr, g⟩ => by
    unfold mRetV at g
    split at g
    · rename_i d q
      obtain ⟨v, q1, q2⟩ := sr.pu i d q
      exact ⟨v, q1, g v W H sr.ext sr.ok sr.hr q2⟩
    · rename_i d q
      obtain ⟨a, q1, q2, q3, q4, q5⟩ := sr.ow i d q
      exact ⟨_, q1, g (.ref a) W H sr.ext sr.ok sr.hr ⟨a, rfl, q2, q3, q4, q5⟩⟩
    · exact g.elim⟩
end
section
variable {w : World} {K : PySem.W.Frag} {mg : Str → Option Value} {W0 W W1 : Wd} {H0 H H1 : Hp} {τ : Tu} {σ : L2.St} {h h1 : EH}
theorem set_ow {τ : Tu} {i j : Nat} {s : Sl} {d : D} (q : (τ.set i s)[j]? = some (.ow d)) : (i = j ∧ s = .ow d ∧ i < τ.length) ∨ (i ≠ j ∧ τ[j]? = some (.ow d)) := by
  by_cases hj : i = j
  · subst hj
    rw [List.getElem?_set] at q
    split at q
    · split at q
      · rename_i hl
        exact .inl ⟨rfl, Option.some.inj q, hl⟩
      · cases q
    · rename_i n; exact absurd rfl n
  · rw [List.getElem?_set_ne hj] at q
    exact .inr ⟨hj, q⟩
/-- a container that this frame alone holds, put into a slot -/
theorem SR.setO (s : SR w K mg W0 H0 W H τ σ h) (i : Nat) {d : D} {a : Addr} (h0 : H0 a = none) (hm : a ∉ W.μ) (hp : ¬ W.P a) (o : Own w K mg W H d a)
    (ns : ∀ j e, j ≠ i → τ[j]? = some (.ow e) → σ[j]? ≠ some (some (.ref a))) : SR w K mg W0 H0 W H (τ.set i (.ow d)) (σ.set i (some (.ref a))) h where
  ok0 := s.ok0
  ok := s.ok
  hr := s.hr
  ext := s.ext
  len := by rw [List.length_set, List.length_set]; exact s.len
  pu := fun j e q => by
    by_cases hj : i = j
    · subst hj
      rw [List.getElem?_set] at q
      split at q
      · split at q <;> cases q
      · rename_i n; exact absurd rfl n
    · rw [List.getElem?_set_ne hj] at q
      rw [List.getElem?_set_ne hj]
      exact s.pu j e q
  ow := fun j e q => by
    rcases set_ow q with ⟨rfl, z, hl⟩ | ⟨hj, q⟩
    · cases z
      exact ⟨a, by rw [List.getElem?_set_self (by rw [← s.len]; exact hl)], h0, hm, hp, o⟩
    · rw [List.getElem?_set_ne hj]
      exact s.ow j e q
  sep := fun j k e f b hjk q1 q2 q3 q4 => by
    rcases set_ow q1 with ⟨rfl, z, hl⟩ | ⟨hj, q1⟩
    · rw [List.getElem?_set_self (by rw [← s.len]; exact hl)] at q3
      cases q3
      rcases set_ow q2 with ⟨rfl, _, _⟩ | ⟨hk, q2⟩
      · exact hjk rfl
      · rw [List.getElem?_set_ne hk] at q4
        exact ns k f (Ne.symm hk) q2 q4
    · rw [List.getElem?_set_ne hj] at q3
      rcases set_ow q2 with ⟨rfl, z, hl⟩ | ⟨hk, q2⟩
      · rw [List.getElem?_set_self (by rw [← s.len]; exact hl)] at q4
        cases q4
        exact ns j e (Ne.symm hj) q1 q3
      · rw [List.getElem?_set_ne hk] at q4
        exact s.sep j k e f b hjk q1 q2 q3 q4
/-- a result put into a slot -/
theorem SR.put (sr : SR w K mg W0 H0 W H τ σ h) (e1 : Ext W H W1 H1) (ok1 : WOk W1 H1) (sr1 : SR w K mg W0 H0 W1 H1 τ σ h1) {s : Sl} {v : V} (q : rF w K mg W H W1 H1 s v) (i : Nat) : SR w K mg W0 H0 W1 H1 (τ.set i s) (σ.set i (some v)) h1 := by
  cases s with
  | em => exact q.elim
  | pu d => exact sr1.set i q
  | ow d =>
    obtain ⟨a, rfl, hn, hm, hp, o⟩ := q
    refine sr1.setO i ?_ hm hp o fun j e hj q1 q2 => ?_
    · cases z : H0 a with
      | none => rfl
      | some u => exact absurd hn (sr.ext.there sr.ok (by rw [z]; exact fun y => nomatch y))
    · obtain ⟨b, q3, _, _, _, q5⟩ := sr.ow j e q1
      rw [q2] at q3
      cases q3
      exact absurd hn q5.there
/-- what is held in a slot, shared from here on -/
def share (i : Nat) (τ : Tu) : Tu := match τ[i]? with
  | some (.ow d) => τ.set i (.pu d)
  | _ => τ
theorem WOk.add' {a : Addr} (ok : WOk W H) (hm : a ∉ W.μ) (ha : H a ≠ none) : WOk (W.add a) H := ok.add hm ha
theorem Own.gr {d : D} {a : Addr} {W' : Wd} (g : Gr W H W' H) (o : Own w K mg W H d a) : Own w K mg W' H d a := by
  cases o with
  | lst q r => exact .lst q (r.ext g)
  | dct q n r => exact .dct q n (r.ext g)
theorem set_pu {τ : Tu} {i j : Nat} {d e : D} (q : (τ.set i (.pu d))[j]? = some (.pu e)) : (i = j ∧ d = e) ∨ (i ≠ j ∧ τ[j]? = some (.pu e)) := by
  by_cases hj : i = j
  · subst hj
    rw [List.getElem?_set] at q
    split at q
    · split at q
      · cases q
        exact .inl ⟨rfl, rfl⟩
      · cases q
    · rename_i n; exact absurd rfl n
  · rw [List.getElem?_set_ne hj] at q
    exact .inr ⟨hj, q⟩
theorem SR.share (s : SR w K mg W0 H0 W H τ σ h) (i : Nat) : ∃ W', Gr W H W' H ∧ SR w K mg W0 H0 W' H (share i τ) σ h := by
  unfold Mp.share
  split
  · rename_i d q
    obtain ⟨a, q1, q2, q3, q4, q5⟩ := s.ow i d q
    refine ⟨W.add a, Gr.add W H a, s.ok0, s.ok.add q3 q5.there, s.hr.add s.ok, ⟨s.ext.mu, fun b z => .inl (s.ext.pp b z), s.ext.keep, fun b z y => ?_, s.ext.newM⟩, by rw [List.length_set]; exact s.len, fun j e z => ?_, fun j e z => ?_, fun j k e f b hjk z1 z2 z3 => ?_⟩
    · rcases y with y | rfl
      · exact s.ext.newP b z y
      · exact absurd q2 z
    · rcases set_pu z with ⟨rfl, rfl⟩ | ⟨hj, z⟩
      · exact ⟨_, q1, q5.settled s.ok⟩
      · obtain ⟨v, v1, v2⟩ := s.pu j e z
        exact ⟨v, v1, v2.ext (Gr.add W H a)⟩
    · rcases set_ow z with ⟨_, z, _⟩ | ⟨hj, z⟩
      · cases z
      · obtain ⟨b, b1, b2, b3, b4, b5⟩ := s.ow j e z
        refine ⟨b, b1, b2, b3, fun y => ?_, b5.gr (Gr.add W H a)⟩
        rcases y with y | rfl
        · exact b4 y
        · exact s.sep i j d e b hj q z q1 b1
    · rcases set_ow z1 with ⟨_, z, _⟩ | ⟨hj, z1⟩
      · cases z
      rcases set_ow z2 with ⟨_, z, _⟩ | ⟨hk, z2⟩
      · cases z
      exact s.sep j k e f b hjk z1 z2 z3
  · exact ⟨W, Gr.refl _ _, s⟩
/-- what is held in a slot, laid into the small heap -/
def eoOf : D → Option EO
  | .lst ds => some (.lst ds)
  | .dct kvs => some (.dct kvs)
  | _ => none
def toRef (i : Nat) (τ : Tu) (h : EH) : Tu × EH := match τ[i]? with
  | some (.ow d) => match eoOf d with
    | some o => (τ.set i (.pu (.ref h.length)), h ++ [o])
    | none => (τ, h)
  | _ => (τ, h)
def Wd.ref (W : Wd) (a : Addr) : Wd := ⟨W.μ ++ [a], W.P⟩
theorem Gr.ref (W : Wd) (H : Hp) (a : Addr) : Gr W H (W.ref a) H := ⟨⟨[a], rfl⟩, fun _ h => h, fun _ _ h _ => h⟩
theorem Own.oo {d : D} {a : Addr} {o : EO} (x : Own w K mg W H d a) (h : eoOf d = some o) : OO w K mg W H o a := by
  cases x with
  | lst q r => cases h; exact .lst q r
  | dct q n r => cases h; exact .dct q n r
theorem ref_ok {a : Addr} (ok : WOk W H) (hm : a ∉ W.μ) (hp : ¬ W.P a) (ha : H a ≠ none) : WOk (W.ref a) H where
  p := ok.p
  m := fun b hb => by
    rcases List.mem_append.mp hb with hb | hb
    · exact ok.m b hb
    · rw [List.mem_singleton.mp hb]; exact ⟨ha, hp⟩
  nd := by
    show (W.μ ++ [a]).Nodup
    rw [List.nodup_append]
    exact ⟨ok.nd, by simp, fun x hx y hy z => hm (by rw [List.mem_singleton.mp hy] at z; exact z ▸ hx)⟩
theorem ref_hr {a : Addr} {d : D} {o : EO} (ok : WOk W H) (hr : HR w K mg W H h) (x : Own w K mg W H d a) (ho : eoOf d = some o) : HR w K mg (W.ref a) H (h ++ [o]) := ⟨by
    show (W.μ ++ [a]).length = (h ++ [o]).length
    rw [List.length_append, List.length_append, hr.len]; rfl, fun n u b h1 h2 => by
  have h2 : (W.μ ++ [a])[n]? = some b := h2
  by_cases hn : n < h.length
  · rw [List.getElem?_append_left hn] at h1
    rw [List.getElem?_append_left (by rw [hr.len]; exact hn)] at h2
    exact (hr.at_ n u b h1 h2).gr ok (Gr.ref W H a)
  · rw [List.getElem?_append_right (by omega)] at h1
    rw [List.getElem?_append_right (by rw [hr.len]; omega)] at h2
    have e1 : n - h.length = 0 := by
      have := (List.getElem?_eq_some_iff.mp h1).1
      simp at this
      omega
    rw [e1] at h1
    rw [hr.len, e1] at h2
    cases h1; cases h2
    exact (x.oo ho).gr ok (Gr.ref W H a)⟩
theorem ref_rv {a : Addr} (hr : HR w K mg W H h) : RV w K mg (W.ref a) H (.ref h.length) (.ref a) := .ref (by
  show (W.μ ++ [a])[h.length]? = some a
  rw [← hr.len, List.getElem?_append_right (Nat.le_refl _)]
  simp)
theorem SR.toRef (s : SR w K mg W0 H0 W H τ σ h) (i : Nat) : ∃ W', Gr W H W' H ∧ SR w K mg W0 H0 W' H (toRef i τ h).1 σ (toRef i τ h).2 := by
  unfold Mp.toRef
  split
  · rename_i d q
    split
    · rename_i o ho
      obtain ⟨a, q1, q2, q3, q4, q5⟩ := s.ow i d q
      refine ⟨W.ref a, Gr.ref W H a, s.ok0, ref_ok s.ok q3 q4 q5.there, ref_hr s.ok s.hr q5 ho, ⟨?_, s.ext.pp, s.ext.keep, s.ext.newP, fun b z y => ?_⟩, by rw [List.length_set]; exact s.len, fun j e z => ?_, fun j e z => ?_, fun j k e f b hjk z1 z2 z3 => ?_⟩
      · obtain ⟨t, ht⟩ := s.ext.mu
        exact ⟨t ++ [a], by show W.μ ++ [a] = _; rw [ht, List.append_assoc]⟩
      · rcases List.mem_append.mp y with y | y
        · exact s.ext.newM b z y
        · rw [List.mem_singleton.mp y] at z; exact absurd q2 z
      · rcases set_pu z with ⟨rfl, rfl⟩ | ⟨hj, z⟩
        · exact ⟨_, q1, ref_rv s.hr⟩
        · obtain ⟨v, v1, v2⟩ := s.pu j e z
          exact ⟨v, v1, v2.ext (Gr.ref W H a)⟩
      · rcases set_ow z with ⟨_, z, _⟩ | ⟨hj, z⟩
        · cases z
        · obtain ⟨b, b1, b2, b3, b4, b5⟩ := s.ow j e z
          refine ⟨b, b1, b2, fun y => ?_, b4, b5.gr (Gr.ref W H a)⟩
          rcases List.mem_append.mp y with y | y
          · exact b3 y
          · rw [List.mem_singleton.mp y] at b1
            exact s.sep i j d e a hj q z q1 b1
      · rcases set_ow z1 with ⟨_, z, _⟩ | ⟨hj, z1⟩
        · cases z
        rcases set_ow z2 with ⟨_, z, _⟩ | ⟨hk, z2⟩
        · cases z
        exact s.sep j k e f b hjk z1 z2 z3
    · exact ⟨W, Gr.refl _ _, s⟩
  · exact ⟨W, Gr.refl _ _, s⟩
end
section
variable {X : Cx} {e a b c tg : Expr} {pos : Pos} {st : Stmt} {sts : List Stmt} {m n : SM}
def mShare (i : Nat) (m : SM) : SM := fun τ h => m (share i τ) h
def mToRef (i : Nat) (m : SM) : SM := fun τ h => m (toRef i τ h).1 (toRef i τ h).2
theorem tsm_share {Wx : WX} {D : Ends} {σ : L2.St} {H : Hp} {i : Nat} (q : TSm X (mShare i m) Wx D σ H) : TSm X m Wx D σ H := by
  obtain ⟨W0, H0, W, τ, h, sr, g⟩ := q
  obtain ⟨W', g', sr'⟩ := sr.share i
  exact ⟨W0, H0, W', _, h, sr', KoS.at g' g⟩
theorem tsm_toRef {Wx : WX} {D : Ends} {σ : L2.St} {H : Hp} {i : Nat} (q : TSm X (mToRef i m) Wx D σ H) : TSm X m Wx D σ H := by
  obtain ⟨W0, H0, W, τ, h, sr, g⟩ := q
  obtain ⟨W', g', sr'⟩ := sr.toRef i
  exact ⟨W0, H0, W', _, _, sr', KoS.at g' g⟩
theorem simSs_share (i : Nat) (hm : SimSs X sts m) : SimSs X sts (mShare i m) := ⟨fun Wx tk => PSs.imp (hm.run Wx tk) fun _ _ _ q => tsm_share q⟩
theorem simS_share (i : Nat) (hm : SimS X st m) : SimS X st (mShare i m) := ⟨fun Wx tk => PS.imp (hm.run Wx tk) fun _ _ _ q => tsm_share q⟩
theorem simSs_toRef (i : Nat) (hm : SimSs X sts m) : SimSs X sts (mToRef i m) := ⟨fun Wx tk => PSs.imp (hm.run Wx tk) fun _ _ _ q => tsm_toRef q⟩
theorem simS_toRef (i : Nat) (hm : SimS X st m) : SimS X st (mToRef i m) := ⟨fun Wx tk => PS.imp (hm.run Wx tk) fun _ _ _ q => tsm_toRef q⟩
/-- a slot whose value is no longer of use -/
def mForget (vs : List Nat) (m : SM) : SM := fun τ h => m (wipeT τ vs) h
theorem SR.forget {w : World} {K : PySem.W.Frag} {mg : Str → Option Value} {W0 W : Wd} {H0 H : Hp} {τ : Tu} {σ : L2.St} {h : EH} (s : SR w K mg W0 H0 W H τ σ h) (i : Nat) : SR w K mg W0 H0 W H (τ.set i .em) σ h where
  ok0 := s.ok0
  ok := s.ok
  hr := s.hr
  ext := s.ext
  len := by rw [List.length_set]; exact s.len
  pu := fun j e q => by
    by_cases hj : i = j
    · subst hj
      rw [List.getElem?_set] at q
      split at q
      · split at q <;> cases q
      · rename_i n; exact absurd rfl n
    · rw [List.getElem?_set_ne hj] at q
      exact s.pu j e q
  ow := fun j e q => by
    rcases set_ow q with ⟨_, z, _⟩ | ⟨hj, q⟩
    · cases z
    · exact s.ow j e q
  sep := fun j k e f a hjk q1 q2 q3 => by
    rcases set_ow q1 with ⟨_, z, _⟩ | ⟨hj, q1⟩
    · cases z
    rcases set_ow q2 with ⟨_, z, _⟩ | ⟨hk, q2⟩
    · cases z
    exact s.sep j k e f a hjk q1 q2 q3
theorem SR.forgets {w : World} {K : PySem.W.Frag} {mg : Str → Option Value} {W0 W : Wd} {H0 H : Hp} {τ : Tu} {σ : L2.St} {h : EH} (s : SR w K mg W0 H0 W H τ σ h) : ∀ vs : List Nat, SR w K mg W0 H0 W H (wipeT τ vs) σ h
  | [] => s
  | v :: vs => (s.forgets vs).forget v
theorem simSs_forget (vs : List Nat) (hm : SimSs X sts m) : SimSs X sts (mForget vs m) := ⟨fun Wx tk => PSs.imp (hm.run Wx tk) fun D σ H ⟨W0, H0, W, τ, h, sr, g⟩ => ⟨W0, H0, W, _, h, sr.forgets vs, g⟩⟩
/-! stores -/
def mSet (i : Nat) (m : FM) : SM := fun τ h => (m τ h).thn τ fun s h1 => .nx (τ.set i s) h1
theorem set_tg {i : Nat} {m : FM} {Wx : WX} {D : Ends} {σ : L2.St} {H : Hp} (q : TSm X (mSet i m) Wx D σ H) : tAsg (Tg X (rF X.w X.K X.mg) m Wx) (gName i) D σ H := by
  obtain ⟨W0, H0, W, τ, h, sr, g⟩ := q
  exact ⟨W0, H0, W, τ, h, sr, KoS.thn sr g fun s h1 v W1 H1 _ e1 sr1 q k => k _ W1 H1 (Gr.refl _ _) (SR.put sr e1 sr1.ok sr1 q i)⟩
theorem simS_set {i : Nat} {x : Str} {m : FM} {p : Pos} (hN : X.N.Nodup) (hi : X.N[i]? = some x) (hx : Loc X.env.scope x) (he : SimF X e m) (hs : swapsWith e (some (.Name x p)) pos.line X.env = pure false) (hf : X.fn x = true ∨ X.env.scope.names.lookup x = some .local) :
    SimS X (.Assign [.Name x p] e pos) (mSet i m) := ⟨fun Wx tk => PS.imp (ps_set hN hi hx (he.run Wx tk) hs hf) fun D σ H q => set_tg q⟩
/-- a target that takes a value apart -/
def mAsg (t : Tt) (m : EM) : SM := fun τ h => (m τ h).thn τ fun d h1 => match fOf t d τ with
  | some τ1 => .nx τ1 h1
  | none => .no
theorem simS_asg {t : Tt} {m : EM} (he : SimE X e m) (hg : PG X tg (gOf X.K t)) (hs : swapsWithSole [tg] e pos.line X.env = pure false) (hw : swappedStores [tg] e X.env = pure none) (h1 : (assignEach [tg] X.env).map (·.2) = [assign tg X.env]) :
    SimS X (.Assign [tg] e pos) (mAsg t m) := ⟨fun Wx tk => PS.imp (ps_asg (he.run Wx tk) hg hs hw h1) fun D σ H ⟨W0, H0, W, τ, h, sr, g⟩ => ⟨W0, H0, W, τ, h, sr, KoS.thn sr g fun d h1 v W1 H1 _ e1 sr1 q k => by
  split at k
  · rename_i τ1 ht
    exact g_sound t sr1 q ht fun σ' s' _ => k σ' W1 H1 (Gr.refl _ _) s'
  · exact k.elim⟩⟩
/-- a, b = x, y -/
def mPar (i j : Nat) (ma : AM) : SM := fun τ h => (ma τ h).thn τ fun ds h1 => match ds with
  | [d, e] => .nx ((τ.set i (.pu d)).set j (.pu e)) h1
  | _ => .no
theorem simS_par {i j : Nat} {x y : Str} {ma : AM} {px py pt : Pos} {kt k2 pt2} (hc : X.calm = true) (hN : X.N.Nodup) (hi : X.N[i]? = some x) (hj : X.N[j]? = some y) (hij : i ≠ j)
    (hx : X.env.scope.names.lookup x = some .local) (hy : X.env.scope.names.lookup y = some .local) (ha : SimA X [a, b] ma)
    (hw : swappedStores [.Tuple [.Name x px, .Name y py] kt pt] (.Tuple [a, b] k2 pt2) X.env = pure (some [x, y]))
    (hs : swapsWithSole [.Tuple [.Name x px, .Name y py] kt pt] (.Tuple [a, b] k2 pt2) pos.line X.env = pure false) :
    SimS X (.Assign [.Tuple [.Name x px, .Name y py] kt pt] (.Tuple [a, b] k2 pt2) pos) (mPar i j ma) := ⟨fun Wx tk => PS.imp (ps_par hc hN hi hj hij hx hy (ha.run Wx tk) hw hs) fun D σ H ⟨W0, H0, W, τ, h, sr, g⟩ => ⟨W0, H0, W, τ, h, sr, KoS.thn sr g fun ds h1 vs W1 H1 _ e1 sr1 q k => by
  split at k
  · cases q with
    | cons q1 q2 =>
      cases q2 with
      | cons q2 q3 =>
        cases q3
        exact ⟨_, _, rfl, k _ W1 H1 (Gr.refl _ _) ((sr1.set i q1).set j q2)⟩
  · exact k.elim⟩⟩
/-! if, while, for -/
def mIf (c : BM) (m n : SM) : SM := fun τ h => (c τ h).thn τ fun b h1 => if b = true then m τ h1 else n τ h1
theorem simS_if {mc : BM} {as bs : List Stmt} (hc : SimT X c mc) (hm : SimSs X as m) (hn : SimSs X bs n) : SimS X (.If c as bs pos) (mIf mc m n) := ⟨fun Wx tk => PS.imp (ps_if (hc.run Wx tk) (hm.run Wx tk) (hn.run Wx tk)) fun D σ H ⟨W0, H0, W, τ, h, sr, g⟩ =>
  ⟨W0, H0, W, τ, h, sr, KoS.thn sr g fun b h1 v W1 H1 _ e1 sr1 q k => by
    cases q
    split at k
    · rename_i hb
      rw [if_pos hb]
      exact ⟨W0, H0, W1, τ, h1, sr1, k⟩
    · rename_i hb
      rw [if_neg hb]
      exact ⟨W0, H0, W1, τ, h1, sr1, k⟩⟩⟩
def loopEnd (r : Sz) (k : SM) : Sz := match r with
  | .nx τ h => k τ h
  | .cnt τ h => k τ h
  | .brk τ h => .nx τ h
  | .ret s h => .ret s h
  | .exc x τ h => .exc x τ h
  | .no => .no
def whileN (c : BM) (b : SM) : Nat → SM
  | 0 => fun _ _ => .no
  | n + 1 => fun τ h => (c τ h).thn τ fun t h1 => if t = true then loopEnd (b τ h1) (whileN c b n) else .nx τ h1
open Classical in
noncomputable def mWhile (c : BM) (b : SM) : SM := fun τ h => if hn : ∃ n, whileN c b n τ h ≠ .no then whileN c b hn.choose τ h else .no
theorem KoS.loop {w : World} {K : PySem.W.Frag} {mg : Str → Option Value} {W0 W : Wd} {H0 H : Hp} {Wx : WX} {D : Ends} {r : Sz} {k : SM} {N : L2.St → Hp → Prop} (g : KoS w K mg W0 H0 W H Wx (loopEnd r k) D)
    (go : ∀ τ' h' σ' W' H', Gr W H W' H' → SR w K mg W0 H0 W' H' τ' σ' h' → KoS w K mg W0 H0 W' H' Wx (k τ' h') D → N σ' H') : KoS w K mg W0 H0 W H Wx r { D with nx := N, ct := N, bk := D.nx } := by
  cases r with
  | nx τ' h' => exact fun σ' W' H' e s => go τ' h' σ' W' H' e s (KoS.at e g)
  | cnt τ' h' => exact fun σ' W' H' e s => go τ' h' σ' W' H' e s (KoS.at e g)
  | brk τ' h' => exact g
  | exc x τ' h' => exact g
  | ret s h' => exact g
  | no => exact g
theorem simS_while {mc : BM} {bs : List Stmt} (hp : PassesOwn (model X.prog X.w) X.A X.env X.xe) (hc : SimT X c mc) (hm : SimSs X bs m) : SimS X (.While c bs [] pos) (mWhile mc m) := by
  refine ⟨fun Wx tk => PS.imp (ps_while hp (hc.run Wx tk) (hm.run Wx tk)) fun D σ H ⟨W0, H0, W, τ, h, sr, g⟩ => ?_⟩
  unfold mWhile at g
  split at g
  case isFalse => exact g.elim
  rename_i hn
  generalize hn.choose = n at g
  clear hn
  refine ⟨fun k σ H => ∃ W τ h, SR X.w X.K X.mg W0 H0 W H τ σ h ∧ KoS X.w X.K X.mg W0 H0 W H Wx (whileN mc m k τ h) D, ⟨n, W, τ, h, sr, g⟩, ?_⟩
  rintro k σ1 H1 ⟨W1, τ1, h1, sr1, g1⟩
  cases k with
  | zero => exact g1.elim
  | succ k =>
    refine ⟨W0, H0, W1, τ1, h1, sr1, KoS.thn sr1 g1 fun b h2 v W2 H2 _ e2 sr2 q g2 => ?_⟩
    cases q
    split at g2
    · rename_i hb
      rw [if_pos hb]
      refine ⟨fun σ H => ∃ W τ h, SR X.w X.K X.mg W0 H0 W H τ σ h ∧ KoS X.w X.K X.mg W0 H0 W H Wx (whileN mc m k τ h) D, fun σ' H' q => ⟨k, Nat.lt_succ_self k, q⟩, W0, H0, W2, τ1, h2, sr2, ?_⟩
      exact KoS.loop g2 fun τ' h' σ' W' H' _ s g3 => ⟨W', τ', h', s, g3⟩
    · rename_i hb
      rw [if_neg hb]
      exact g2 σ1 W2 H2 (Gr.refl _ _) sr2
def forGo (chk : EH → Bool) (t : Tt) (b : SM) : List D → SM
  | [], τ, h => if chk h = true then .nx τ h else .no
  | d :: ds, τ, h => if chk h = true then (match fOf t d τ with
    | some τ1 => loopEnd (b τ1 h) (forGo chk t b ds)
    | none => .no) else .no
def mFor (mi : IM) (t : Tt) (b : SM) : SM := fun τ h => (mi τ h).thn τ fun s h1 => forGo s.1 t b s.2 τ h1
theorem simS_for {t : Tt} {mi : IM} {iter : Expr} {bs : List Stmt} (hp : PassesOwn (model X.prog X.w) X.A X.env X.xe) (hc : X.calm = true) (hi : SimI X Gr tg iter mi) (hg : PG X tg (gOf X.K t)) (hm : SimSs X bs m)
    (hs : ∀ x, foldedSetIterable iter X.env x = pure x) : SimS X (.For tg iter bs [] pos) (mFor mi t m) := by
  refine ⟨fun Wx tk => PS.imp (ps_for hp hc (hi.run Wx tk) hg (hm.run Wx tk) hs) fun D σ H ⟨W0, H0, W, τ, h, sr, g⟩ => ⟨W0, H0, W, τ, h, sr, KoS.thn sr g fun s h1 J W1 H1 _ e1 sr1 it g1 => ?_⟩⟩
  obtain ⟨chk, ds⟩ := s
  simp only at g1
  have it : ItOk X.w X.K X.mg Gr J chk ds W1 H1 := it
  refine ⟨fun i k σ H => k = ds.length - i ∧ ∃ W τ h, Gr W1 H1 W H ∧ SR X.w X.K X.mg W0 H0 W H τ σ h ∧ KoS X.w X.K X.mg W0 H0 W H Wx (forGo chk t m (ds.drop i) τ h) D, ⟨ds.length, by simp, W1, τ, h1, Gr.refl _ _, sr1, by simpa using g1⟩, ?_⟩
  rintro i k σ2 H2 ⟨hk, W2, τ2, h2, e2, sr2, g2⟩
  cases hx : ds[i]? with
  | none =>
    have hi2 : ds.length ≤ i := List.getElem?_eq_none_iff.mp hx
    rw [List.drop_eq_nil_of_le hi2] at g2
    unfold forGo at g2
    split at g2
    · rename_i hc
      exact .inl ⟨it.stop W2 H2 h2 i e2 sr2.ok sr2.hr hc hi2, g2 σ2 W2 H2 (Gr.refl _ _) sr2⟩
    · exact g2.elim
  | some d =>
    have hi2 := (List.getElem?_eq_some_iff.mp hx).1
    have hdr : ds.drop i = d :: ds.drop (i + 1) := by rw [List.drop_eq_getElem_cons hi2, (List.getElem?_eq_some_iff.mp hx).2]
    rw [hdr] at g2
    unfold forGo at g2
    split at g2
    case isFalse => exact g2.elim
    rename_i hc
    obtain ⟨jgo, jy⟩ := it.go W2 H2 h2 i d e2 sr2.ok sr2.hr hc hx
    refine .inr ⟨jgo, fun σ H => ∃ W τ h, Gr W1 H1 W H ∧ SR X.w X.K X.mg W0 H0 W H τ σ h ∧ KoS X.w X.K X.mg W0 H0 W H Wx (forGo chk t m (ds.drop (i + 1)) τ h) D, fun σ' H' q => ⟨ds.length - (i + 1), by omega, rfl, q⟩, fun x H'' hy => ?_⟩
    obtain ⟨W3, e3, ok3, hr3, rx⟩ := jy x H'' hy
    have sr3 := sr2.step e3 ok3 hr3
    split at g2
    · rename_i τ1 ht
      refine g_sound t sr3 rx ht fun σ' s' _ => ⟨W0, H0, W3, τ1, h2, s', ?_⟩
      exact KoS.loop (KoS.at (e3.gr sr2.ok) g2) fun τ' h' σ' W' H' e' s g3 => ⟨W', τ', h', (e2.trans (e3.gr sr2.ok)).trans e', s, g3⟩
    · exact g2.elim
end
end Mp

set_option Elab.async false
set_option linter.all false
set_option maxRecDepth 100000
/-! Mp: containers that are written. -/
namespace Mp
open PySem PySem.Spec L2
open PyProof.Rows hiding St

section
variable {w : World} {K : PySem.W.Frag} {mg : Str → Option Value} {W0 W W1 : Wd} {H0 H H1 : Hp} {τ : Tu} {σ : L2.St} {h h1 : EH}
/-- written in a slot -/
theorem SR.wrS (s : SR w K mg W0 H0 W H τ σ h) {i : Nat} {d d' : D} {a : Addr} {o : HO} (q : τ[i]? = some (.ow d)) (qa : σ[i]? = some (some (.ref a))) (x : Own w K mg W (upd H a o) d' a) :
    Gr W H W (upd H a o) ∧ SR w K mg W0 H0 W (upd H a o) (τ.set i (.ow d')) σ h := by
  obtain ⟨b, q1, q2, q3, q4, q5⟩ := s.ow i d q
  rw [qa] at q1
  cases q1
  refine ⟨Gr.upd' q4, s.ok0, s.ok.upd' _ _, s.hr.upd' q3 q4, s.ext.upd' q2, by rw [List.length_set]; exact s.len, fun j e z => ?_, fun j e z => ?_, fun j k e f b hjk z1 z2 z3 => ?_⟩
  · have : i ≠ j := fun y => by
      subst y
      rw [List.getElem?_set] at z
      split at z
      · split at z <;> cases z
      · rename_i n; exact n rfl
    rw [List.getElem?_set_ne this] at z
    obtain ⟨v, v1, v2⟩ := s.pu j e z
    exact ⟨v, v1, v2.ext (Gr.upd' q4)⟩
  · rcases set_ow z with ⟨rfl, y, _⟩ | ⟨hj, z⟩
    · cases y
      exact ⟨a, qa, q2, q3, q4, x⟩
    · obtain ⟨b, b1, b2, b3, b4, b5⟩ := s.ow j e z
      refine ⟨b, b1, b2, b3, b4, ?_⟩
      have hb : b ≠ a := fun y => s.sep i j d e a hj q z qa (y ▸ b1)
      cases b5 with
      | lst p r => exact .lst (by rw [upd_ne hb]; exact p) (r.ext (Gr.upd' q4))
      | dct p n r => exact .dct (by rw [upd_ne hb]; exact p) n (r.ext (Gr.upd' q4))
  · have g : ∀ {j : Nat} {e : D}, (τ.set i (.ow d'))[j]? = some (.ow e) → ∃ e', τ[j]? = some (.ow e') := fun {j e} z => by
      rcases set_ow z with ⟨rfl, _, _⟩ | ⟨_, z⟩
      · exact ⟨d, q⟩
      · exact ⟨e, z⟩
    obtain ⟨e', z1⟩ := g z1
    obtain ⟨f', z2⟩ := g z2
    exact s.sep j k e' f' b hjk z1 z2 z3
/-- written in the small heap -/
theorem SR.wrR (s : SR w K mg W0 H0 W H τ σ h) {n : Nat} {a : Addr} {o : HO} {u : EO} (qa : W.μ[n]? = some a) (x : OO w K mg W (upd H a o) u a) :
    Gr W H W (upd H a o) ∧ SR w K mg W0 H0 W (upd H a o) τ σ (h.set n u) := by
  have hm : a ∈ W.μ := List.mem_of_getElem? qa
  have q4 : ¬ W.P a := (s.ok.m a hm).2
  have g : Gr W H W (upd H a o) := Gr.upd' q4
  refine ⟨g, s.ok0, s.ok.upd' _ _, ⟨by rw [List.length_set]; exact s.hr.len, fun m v b z1 z2 => ?_⟩, ⟨s.ext.mu, s.ext.pp, fun b v z y => ?_, s.ext.newP, s.ext.newM⟩, s.len, fun j e z => ?_, fun j e z => ?_, s.sep⟩
  · by_cases hn : n = m
    · subst hn
      rw [qa] at z2
      cases z2
      rw [List.getElem?_set] at z1
      split at z1
      · split at z1
        · cases z1; exact x
        · cases z1
      · rename_i y; exact absurd rfl y
    · rw [List.getElem?_set_ne hn] at z1
      have hb : b ≠ a := fun y => by
        subst y
        exact hn ((List.getElem?_inj (List.getElem?_eq_some_iff.mp qa).1 s.ok.nd).mp (qa.trans z2.symm))
      cases s.hr.at_ m v b z1 z2 with
      | lst q r => exact .lst (by rw [upd_ne hb]; exact q) (r.ext g)
      | fz q r => exact .fz (Rd.upd' q hb) (r.ext g)
      | dct q n r => exact .dct (by rw [upd_ne hb]; exact q) n (r.ext g)
      | ins q r s => exact .ins q (by rw [upd_ne hb]; exact r) (s.ext g)
  · have hb : b ≠ a := fun t => by
      subst t
      exact y (s.ext.newM b (by rw [z]; exact fun y => nomatch y) hm)
    rw [upd_ne hb]; exact s.ext.keep b v z y
  · obtain ⟨v, v1, v2⟩ := s.pu j e z
    exact ⟨v, v1, v2.ext g⟩
  · obtain ⟨b, b1, b2, b3, b4, b5⟩ := s.ow j e z
    refine ⟨b, b1, b2, b3, b4, ?_⟩
    have hb : b ≠ a := fun y => b3 (y ▸ hm)
    cases b5 with
    | lst p r => exact .lst (by rw [upd_ne hb]; exact p) (r.ext g)
    | dct p n r => exact .dct (by rw [upd_ne hb]; exact p) n (r.ext g)
end
def eoD : EO → Option D
  | .lst ds => some (.lst ds)
  | .dct kvs => some (.dct kvs)
  | _ => none
theorem OO.own {w : World} {K : PySem.W.Frag} {mg : Str → Option Value} {W : Wd} {H : Hp} {o : EO} {d : D} {a : Addr} (x : OO w K mg W H o a) (h : eoD o = some d) : Own w K mg W H d a := by
  cases x with
  | lst q r => cases h; exact .lst q r
  | dct q n r => cases h; exact .dct q n r
  | fz _ _ => cases h
  | ins _ _ _ => cases h
/-- a container in a slot, or in the small heap, changed -/
def wrV (i : Nat) (f : D → Option D) (τ : Tu) (h : EH) : Sz := match τ[i]? with
  | some (.ow d) => match f d with
    | some d' => .nx (τ.set i (.ow d')) h
    | none => .no
  | some (.pu (.ref n)) => match ((h[n]?.bind eoD).bind f).bind eoOf with
    | some o => .nx τ (h.set n o)
    | none => .no
  | _ => .no
def wrE (d : D) (f : D → Option D) (τ : Tu) (h : EH) : Sz := match d with
  | .ref n => match ((h[n]?.bind eoD).bind f).bind eoOf with
    | some o => .nx τ (h.set n o)
    | none => .no
  | _ => .no
section
variable {X : Cx} {e a b c tg : Expr} {pos : Pos} {st : Stmt} {sts : List Stmt} {m n : SM} {W0 : Wd} {H0 : Hp}
/-- what a rule for a store is told: the container is one that may be written -/
theorem wrV_ok {Wx : WX} {D' : Ends} {W : Wd} {H : Hp} {τ : Tu} {σ : L2.St} {h : EH} {i : Nat} {f : D → Option D} (sr : SR X.w X.K X.mg W0 H0 W H τ σ h) (g : KoS X.w X.K X.mg W0 H0 W H Wx (wrV i f τ h) D') :
    ∃ a d d', σ[i]? = some (some (.ref a)) ∧ ¬ W.P a ∧ Own X.w X.K X.mg W H d a ∧ f d = some d' ∧ ∀ o, Own X.w X.K X.mg W (upd H a o) d' a → D'.nx σ (upd H a o) := by
  unfold wrV at g
  split at g
  · rename_i d q
    split at g
    · rename_i d' hf
      obtain ⟨a, q1, q2, q3, q4, q5⟩ := sr.ow i d q
      refine ⟨a, d, d', q1, q4, q5, hf, fun o x => ?_⟩
      obtain ⟨g1, s1⟩ := sr.wrS q q1 x
      exact g σ W _ g1 s1
    · exact g.elim
  · rename_i n q
    split at g
    · rename_i o' ho
      obtain ⟨v, q1, q2⟩ := sr.pu i _ q
      obtain ⟨a, q3, rfl⟩ := RW.ref (.inl q2)
      obtain ⟨d', h1, h2⟩ := Option.bind_eq_some_iff.mp ho
      obtain ⟨d, h3, h4⟩ := Option.bind_eq_some_iff.mp h1
      obtain ⟨o, h5, h6⟩ := Option.bind_eq_some_iff.mp h3
      refine ⟨a, d, d', q1, (sr.ok.m a (List.mem_of_getElem? q3)).2, (sr.hr.at_ n o a h5 q3).own h6, h4, fun u x => ?_⟩
      obtain ⟨g1, s1⟩ := sr.wrR q3 (x.oo h2)
      exact g σ W _ g1 s1
    · exact g.elim
  · exact g.elim
theorem wrE_ok {Wx : WX} {D' : Ends} {W : Wd} {H : Hp} {τ : Tu} {σ : L2.St} {h : EH} {dr : D} {v : V} {f : D → Option D} (sr : SR X.w X.K X.mg W0 H0 W H τ σ h) (r : RV X.w X.K X.mg W H dr v) (g : KoS X.w X.K X.mg W0 H0 W H Wx (wrE dr f τ h) D') :
    ∃ a d d', v = .ref a ∧ ¬ W.P a ∧ Own X.w X.K X.mg W H d a ∧ f d = some d' ∧ ∀ o, Own X.w X.K X.mg W (upd H a o) d' a → D'.nx σ (upd H a o) := by
  unfold wrE at g
  split at g
  · rename_i n
    split at g
    · rename_i o' ho
      obtain ⟨a, q3, rfl⟩ := RW.ref (.inl r)
      obtain ⟨d', h1, h2⟩ := Option.bind_eq_some_iff.mp ho
      obtain ⟨d, h3, h4⟩ := Option.bind_eq_some_iff.mp h1
      obtain ⟨o, h5, h6⟩ := Option.bind_eq_some_iff.mp h3
      refine ⟨a, d, d', rfl, (sr.ok.m a (List.mem_of_getElem? q3)).2, (sr.hr.at_ n o a h5 q3).own h6, h4, fun u x => ?_⟩
      obtain ⟨g1, s1⟩ := sr.wrR q3 (x.oo h2)
      exact g σ W _ g1 s1
    · exact g.elim
  · exact g.elim
/-! ### o[i] = v -/
def wrB (dk dv : D) (dc : D) : Option D := match dc with
  | .lst ds => match dk with
    | .int k => (ixN ds.length k).map fun j => .lst (ds.set j dv)
    | _ => none
  | .dct kvs => if dOk kvs dk = true ∧ kvs.length < L then some (.dct (dput kvs dk dv)) else none
  | _ => none
def rSet (X : Cx) : TSet := fun o i v H Q => ∃ W dc di dv dc' a, WOk W H ∧ o = .ref a ∧ ¬ W.P a ∧ Own X.w X.K X.mg W H dc a ∧ RW X.w X.K X.mg W H di i ∧ RV X.w X.K X.mg W H dv v ∧ wrB di dv dc = some dc' ∧
  ∀ u, Own X.w X.K X.mg W (upd H a u) dc' a → Q (upd H a u)
theorem RVs.set {w : World} {K : PySem.W.Frag} {mg : Str → Option Value} {W : Wd} {H : Hp} {d : D} {v : V} (rv : RV w K mg W H d v) : ∀ {ds : List D} {vs : List V} (j : Nat), RVs w K mg W H ds vs → RVs w K mg W H (ds.set j d) (vs.set j v)
  | _, _, _, .nil => .nil
  | _, _, 0, .cons _ t => .cons rv t
  | _, _, j + 1, .cons h t => .cons h (t.set rv j)
theorem set_rSet (hu : X.A.units + 64 < cLine) : PSet X (rSet X) := by
  intro pins s σ H o i v ov iv u Q I ro ri rv q
  obtain ⟨W, dc, di, dv, dc', a, ok, rfl, np, x, wi, wv, e, k⟩ := q
  cases x with
  | lst q r =>
    unfold wrB at e
    simp only at e
    split at e
    · rename_i kk
      obtain ⟨j, hj, rfl⟩ := Option.map_eq_some_iff.mp e
      cases wi.int
      refine set_list pins s σ H _ _ v ov iv u Q I ro ri rv ⟨a, _, kk, j, rfl, rfl, q, by rw [← r.length]; exact hj, k _ (.lst upd_same ((r.ext (Gr.upd' np)).set (wv.ext (Gr.upd' np)) j))⟩
    · cases e
  | dct q nd r =>
    unfold wrB at e
    simp only at e
    split at e
    · rename_i hk
      cases e
      cases ro
      exact d_set hu I q nd r hk.1 wi ri wv rv (by rw [← L_eq]; exact hk.2) fun es' ep' s' r' I' => ⟨_, I', k _ (.dct upd_same (nd.put hk.1 dv) (r'.ext (Gr.upd' np)))⟩
    · cases e
/-- a slot that may be written through -/
def isBox (i : Nat) (τ : Tu) : Bool := match τ[i]? with
  | some (.ow _) => true
  | some (.pu (.ref _)) => true
  | _ => false
theorem isBox_at {W : Wd} {H : Hp} {τ : Tu} {σ : L2.St} {h : EH} {i : Nat} (sr : SR X.w X.K X.mg W0 H0 W H τ σ h) (hb : isBox i τ = true) : ∃ a, σ[i]? = some (some (.ref a)) := by
  unfold isBox at hb
  split at hb
  · rename_i d q
    obtain ⟨b, b1, _⟩ := sr.ow i d q
    exact ⟨b, b1⟩
  · rename_i n q
    obtain ⟨z, z1, z2⟩ := sr.pu i _ q
    obtain ⟨b, _, rfl⟩ := RW.ref (.inl z2)
    exact ⟨b, z1⟩
  · cases hb
def mSubV (i : Nat) (mk mv : EM) : SM := fun τ h => (mv τ h).thn τ fun dv h1 => if isBox i τ = true then (mk τ h1).thn τ fun dk h2 => wrV i (wrB dk dv) τ h2 else .no
theorem simS_subV {i : Nat} {x : Str} {k value : Expr} {p p2 : Pos} {mk mv : EM} (hu : X.A.units + 64 < cLine) (hN : X.N[i]? = some x) (hv : Vis X.env.scope x) (hd : (x == ("__debug__" : Str)) = false) (hcd : (x == ("__classdict__" : Str)) = false)
    (hk : SimW X k mk) (he : SimE X value mv) (hs : swapsWithSole [.Subscript (.Name x p) k p2] value pos.line X.env = pure false) (hw : swappedStores [.Subscript (.Name x p) k p2] value X.env = pure none)
    (h1 : (assignEach [.Subscript (.Name x p) k p2] X.env).map (·.2) = [assign (.Subscript (.Name x p) k p2) X.env])
    (ha : ∀ v, assign (.Subscript (.Name x p) k p2) X.env v = (do
      let ov ← holding [v] (eval (.Name x p) X.env)
      let iv ← holding [v, ov] (eval k X.env)
      standAt p2
      holding [v, ov, iv] (setItem ov iv v)
      release [v, ov, iv] [])) : SimS X (.Assign [.Subscript (.Name x p) k p2] value pos) (mSubV i mk mv) :=
  ⟨fun Wx tk => PS.imp (ps_asg (he.run Wx tk) (pg_sub (pe_var hN hv hd hcd) (hk.run Wx tk) (set_rSet hu) ha) hs hw h1) fun D σ H ⟨W0, H0, W, τ, h, sr, g⟩ => ⟨W0, H0, W, τ, h, sr, KoS.thn sr g fun dv h1 v W1 H1 _ e1 sr1 q1 g1 => by
    split at g1
    case isFalse => exact g1.elim
    rename_i hb
    obtain ⟨a, ha'⟩ := isBox_at sr1 hb
    refine ⟨.ref a, ha', W0, H0, W1, τ, h1, sr1, KoS.thn sr1 g1 fun dk h2 kv W2 H2 _ e2 sr2 q2 g2 => ?_⟩
    obtain ⟨b, d, d', z1, z2, z3, z4, z5⟩ := wrV_ok sr2 g2
    rw [ha'] at z1
    cases z1
    exact ⟨W2, d, dk, dv, d', a, sr2.ok, rfl, z2, z3, q2, RV.ext (e2.gr sr1.ok) q1, z4, z5⟩⟩⟩
end
end Mp

set_option Elab.async false
set_option linter.all false
set_option maxRecDepth 100000
/-! Mp: calls of built-ins, by values. -/
namespace Mp
open PySem PySem.Spec L2
open PyProof.Rows hiding St

/-- a call by values -/
def rCall (X : Cx) (g : EH → List D → Option Sl) : List V → Hp → VK → Prop := fun xs H Q => ∃ W h ds d, WOk W H ∧ HR X.w X.K X.mg W H h ∧ RWs X.w X.K X.mg W H ds xs ∧ g h ds = some d ∧
  ∀ v W' H', Ext W H W' H' → WOk W' H' → HR X.w X.K X.mg W' H' h → rF X.w X.K X.mg W H W' H' d v → Q v H'
def mCall (g : EH → List D → Option Sl) (m : AM) : FM := fun τ h => (m τ h).bind fun ds h1 => lift (g h1 ds) h1
section
variable {X : Cx} {e a b c : Expr} {es : List Expr} {pos p : Pos} {x : Str} {id T : String} {g : EH → List D → Option Sl} {m : AM}
theorem call_tg {Wx : WX} {σ : L2.St} {H : Hp} {Q : VK} (q : Tg X (rF X.w X.K X.mg) (mCall g m) Wx σ H Q) : tCB (rCall X g) (Tg X (rAW X.w X.K X.mg) m Wx) σ H Q := by
  obtain ⟨W0, H0, W, τ, h, s, g0⟩ := q
  refine ⟨W0, H0, W, τ, h, s, Ko.step monoF g0 fun ds h1 vs W1 H1 _ e1 ok1 hr1 r1 g1 => ?_⟩
  unfold lift at g1
  split at g1
  · rename_i d q
    exact ⟨W1, h1, ds, d, ok1, hr1, r1, q, g1⟩
  · exact g1.elim
theorem sim_callB (hc : CallR X (.builtin id) (rCall X g)) (hg : Gl X x) (hm : X.mg x = none) (hv : bootBuiltins x = some (.builtin id)) (ha : SimAW X (e :: es) m) (hn : x ≠ "__name__") (hdb : (x == ("__debug__" : Str)) = false)
    (he : starEach (e :: es) X.env = (false, eval e X.env) :: starEach es X.env) (hpl : (backTo pos (starEach es X.env)).any (·.1) = false) : SimF X (.Call (.Name x p) (e :: es) [] pos) (mCall g m) :=
  ⟨fun Wx tk => PE.imp (pe_callB hc hg hm hv (ha.run Wx tk) hn hdb he hpl) fun _ _ _ q => call_tg q⟩
theorem sim_callT (hc : CallR X (.type T) (rCall X g)) (hg : Gl X x) (hm : X.mg x = none) (hv : bootBuiltins x = some (.type T)) (ha : SimAW X (e :: es) m) (hn : x ≠ "__name__") (hdb : (x == ("__debug__" : Str)) = false)
    (he : starEach (e :: es) X.env = (false, eval e X.env) :: starEach es X.env) (hpl : (backTo pos (starEach es X.env)).any (·.1) = false) : SimF X (.Call (.Name x p) (e :: es) [] pos) (mCall g m) :=
  ⟨fun Wx tk => PE.imp (pe_callTy hc hg hm hv (ha.run Wx tk) hn hdb he hpl) fun _ _ _ q => call_tg q⟩
/-- what is kept when the model lays objects that nobody looks at -/
abbrev Kept (s s' : Shared) : Prop := ∃ h' tk, s' = { s with heap := h', toks := tk } ∧ ∀ b o, s.heap.get? b = some o → h'.get? b = some o

/-! ### len, int, isinstance, min, max, abs -/
def gLen (h : EH) (ds : List D) : Option Sl := match ds with
  | [d] => match der h d with
    | .lst xs => some (.pu (.int xs.length))
    | .tup xs => some (.pu (.int xs.length))
    | .dct xs => some (.pu (.int xs.length))
    | .str z => if z.length ≤ L then some (.pu (.int z.length)) else none
    | _ => none
  | _ => none
theorem call_gLen : CallR X (.builtin "len") (rCall X gLen) := by
  intro pins s σ H xs us Q I r h
  obtain ⟨W, hh, ds, d, ok, hr, rs, e, k⟩ := h
  unfold gLen at e
  split at e
  · rename_i d0
    obtain ⟨v, rfl, r0⟩ := rs.one
    have r1 := RW.x r0 hr
    split at e
    · rename_i ys hd
      rw [hd] at r1
      cases e
      obtain ⟨p, vs, rfl, p1, p2⟩ := r1.lst
      exact call_len_seq pins s σ H _ us Q I r ⟨p, vs, rfl, .inl (p1), by rw [← p2.length]; exact k _ W H (Ext.refl _ _) ok hr (.int _)⟩
    · rename_i ys hd
      rw [hd] at r1
      cases e
      obtain ⟨p, vs, rfl, p1, p2⟩ := r1.tup
      exact call_len_seq pins s σ H _ us Q I r ⟨p, vs, rfl, .inr p1, by rw [← p2.length]; exact k _ W H (Ext.refl _ _) ok hr (.int _)⟩
    · rename_i kvs hd
      rw [hd] at r1
      cases e
      obtain ⟨p, es, ep, rfl, p1, nd, p2⟩ := r1.dct
      obtain ⟨u, rfl, rx⟩ := vals1 r
      cases rx
      exact d_len I p1 nd p2 fun t s' I' => ⟨.int _, H, I', ⟨_, rfl⟩, k _ W H (Ext.refl _ _) ok hr (.int _)⟩
    · rename_i z hd
      rw [hd] at r1
      split at e
      · rename_i hz
        cases e
        cases r1.str
        exact call_len_str pins s σ H _ us Q I r ⟨z, rfl, hz, k _ W H (Ext.refl _ _) ok hr (.int _)⟩
      · cases e
    · cases e
  · cases e
def gInt (_ : EH) (ds : List D) : Option Sl := match ds with
  | [.int i] => some (.pu (.int i))
  | [.bl b] => some (.pu (.int (if b = true then 1 else 0)))
  | _ => none
theorem call_gInt : CallR X (.type "int") (rCall X gInt) := by
  intro pins s σ H xs us Q I r h
  obtain ⟨W, hh, ds, d, ok, hr, rs, e, k⟩ := h
  unfold gInt at e
  split at e
  · obtain ⟨v, rfl, r0⟩ := rs.one
    cases e; cases r0.int
    exact call_int1 pins s σ H _ us Q I r (.inl ⟨_, rfl, k _ W H (Ext.refl _ _) ok hr (.int _)⟩)
  · obtain ⟨v, rfl, r0⟩ := rs.one
    cases e; cases r0.bl
    exact call_int1 pins s σ H _ us Q I r (.inr ⟨_, rfl, k _ W H (Ext.refl _ _) ok hr (.int _)⟩)
  · cases e
def tyD : D → Option String
  | .non => some "NoneType"
  | .bl _ => some "bool"
  | .int _ => some "int"
  | .str _ => some "str"
  | .tup _ => some "tuple"
  | .lst _ => some "list"
  | .dct _ => some "dict"
  | _ => none
def gIsi (h : EH) (ds : List D) : Option Sl := match ds with
  | [d, .ty n] => match tyD (der h d) with
    | some t => match kitB t n with
      | some b => some (.pu (.bl b))
      | none => none
    | none => none
  | _ => none
theorem RW.ty' {w : World} {K : PySem.W.Frag} {mg : Str → Option Value} {W : Wd} {H : Hp} {n : String} {v : V} (h : RW w K mg W H (.ty n) v) : v = .ty n := h.ty
theorem kit_rx {pins : List (Addr × Obj)} {s : Shared} {σ : L2.St} {H : Hp} {W : Wd} {d : D} {t : String} {v : V} {u : Value} (I : Inv X pins σ H s) (r : RX X.w X.K X.mg W H d v) (rv : RelV v u) (ht : tyD d = some t) :
    ∃ P : Heap → Prop, PySem.W.KitX X.K u (.type t) P ∧ P s.heap ∧ u ≠ .builtin "__main__.__loader__#opaque" := by
  cases d <;> simp only [tyD, Option.some.injEq, reduceCtorEq] at ht <;> subst ht
  · cases r.non; exact kit_of I rv (.base .non)
  · cases r.bl; exact kit_of I rv (.base (.bl _))
  · cases r.int; exact kit_of I rv (.base (.int _))
  · cases r.str; exact kit_of I rv (.base (.str _))
  · obtain ⟨a, vs, rfl, p1, p2⟩ := r.tup
    cases rv
    obtain ⟨its, _, ⟨o, ho, hc, _⟩, _⟩ := I.tuple p1
    exact ⟨_, PySem.W.kitx_tuple, ⟨o, ho, hc⟩, fun z => nomatch z⟩
  · obtain ⟨a, vs, rfl, p1, p2⟩ := r.lst
    cases rv
    obtain ⟨its, _, pl, _⟩ := I.list (p1)
    obtain ⟨o, ho, hc, _⟩ := pl.isList
    exact ⟨_, PySem.W.kitx_list, ⟨o, ho, hc⟩, fun z => nomatch z⟩
  · obtain ⟨a, es, ep, rfl, p1, nd, p2⟩ := r.dct
    cases rv
    obtain ⟨o, ho, hx, _⟩ := raw_of I p1
    exact ⟨_, PySem.W.kitx_dict, ⟨o, ho, hx.1⟩, fun z => nomatch z⟩
theorem call_gIsi : CallR X (.builtin "isinstance") (rCall X gIsi) := by
  intro pins s σ H xs us Q I r h
  obtain ⟨W, hh, ds, d, ok, hr, rs, e, k⟩ := h
  unfold gIsi at e
  split at e
  · rename_i d0 n
    split at e
    · rename_i t ht
      split at e
      · rename_i bb hb
        cases e
        obtain ⟨v, u, rfl, r0, r1⟩ := rs.two
        cases r1.ty
        obtain ⟨u1, u2, rfl, q1, q2⟩ := vals2 r
        cases q2
        obtain ⟨P, Z, pz, hx⟩ := kit_rx I (RW.x r0 hr) q1 ht
        exact PySem.W.kia_one Z I.kIn pz (kit_ty hb) hx fun tk => ⟨.bl _, H, I.tok tk, rfl, k _ W H (Ext.refl _ _) ok hr (.bl _)⟩
      · cases e
    · cases e
  · cases e
def gMax2 (_ : EH) (ds : List D) : Option Sl := match ds with
  | [.int i, .int j] => some (.pu (.int (if j > i then j else i)))
  | _ => none
def gMin2 (_ : EH) (ds : List D) : Option Sl := match ds with
  | [.int i, .int j] => some (.pu (.int (if j < i then j else i)))
  | _ => none
theorem call_gMax2 (hc : X.calm = true) : CallR X (.builtin "max") (rCall X gMax2) := by
  intro pins s σ H xs us Q I r h
  obtain ⟨W, hh, ds, d, ok, hr, rs, e, k⟩ := h
  unfold gMax2 at e
  split at e
  · obtain ⟨v, u, rfl, r0, r1⟩ := rs.two
    cases e; cases r0.int; cases r1.int
    exact call_max2 hc pins s σ H _ us Q I r ⟨_, _, rfl, k _ W H (Ext.refl _ _) ok hr (.int _)⟩
  · cases e
theorem call_gMin2 (hc : X.calm = true) : CallR X (.builtin "min") (rCall X gMin2) := by
  intro pins s σ H xs us Q I r h
  obtain ⟨W, hh, ds, d, ok, hr, rs, e, k⟩ := h
  unfold gMin2 at e
  split at e
  · obtain ⟨v, u, rfl, r0, r1⟩ := rs.two
    cases e; cases r0.int; cases r1.int
    exact call_min2 hc pins s σ H _ us Q I r ⟨_, _, rfl, k _ W H (Ext.refl _ _) ok hr (.int _)⟩
  · cases e
def gAbs (_ : EH) (ds : List D) : Option Sl := match ds with
  | [.int i] => some (.pu (.int (if i < 0 then -i else i)))
  | _ => none
theorem call_gAbs : CallR X (.builtin "abs") (rCall X gAbs) := by
  intro pins s σ H xs us Q I r h
  obtain ⟨W, hh, ds, d, ok, hr, rs, e, k⟩ := h
  unfold gAbs at e
  split at e
  · obtain ⟨v, rfl, r0⟩ := rs.one
    cases e; cases r0.int
    exact call_abs pins s σ H _ us Q I r ⟨_, rfl, k _ W H (Ext.refl _ _) ok hr (.int _)⟩
  · cases e
/-! ### sum, all, any of a list -/
def intsOf : List D → Option (List Int)
  | [] => some []
  | .int i :: r => (intsOf r).map (i :: ·)
  | _ :: _ => none
def blsOf : List D → Option (List Bool)
  | [] => some []
  | .bl i :: r => (blsOf r).map (i :: ·)
  | _ :: _ => none
section
variable {w : World} {K : PySem.W.Frag} {mg : Str → Option Value} {W : Wd} {H : Hp}
theorem RVs.ints : ∀ {ds : List D} {vs : List V} {ns : List Int}, RVs w K mg W H ds vs → intsOf ds = some ns → vs = ns.map V.int
  | _, _, _, .nil, h => by
    simp only [intsOf, Option.some.injEq] at h
    subst h; rfl
  | _, _, ns, .cons (d := d) r t, h => by
    cases d <;> simp only [intsOf, reduceCtorEq, Option.map_eq_some_iff] at h
    obtain ⟨n2, h1, rfl⟩ := h
    cases RW.int (.inl r)
    rw [List.map_cons, ← t.ints h1]
theorem RVs.bls : ∀ {ds : List D} {vs : List V} {ns : List Bool}, RVs w K mg W H ds vs → blsOf ds = some ns → vs = ns.map V.bl
  | _, _, _, .nil, h => by
    simp only [blsOf, Option.some.injEq] at h
    subst h; rfl
  | _, _, ns, .cons (d := d) r t, h => by
    cases d <;> simp only [blsOf, reduceCtorEq, Option.map_eq_some_iff] at h
    obtain ⟨n2, h1, rfl⟩ := h
    cases RW.bl (.inl r)
    rw [List.map_cons, ← t.bls h1]
end
def gSum (h : EH) (ds : List D) : Option Sl := match ds with
  | [d] => match der h d with
    | .lst xs => (intsOf xs).map fun ns => .pu (.int ns.sum)
    | _ => none
  | _ => none
def gAll (h : EH) (ds : List D) : Option Sl := match ds with
  | [d] => match der h d with
    | .lst xs => (blsOf xs).map fun ns => .pu (.bl (ns.all _root_.id))
    | _ => none
  | _ => none
def gAny (h : EH) (ds : List D) : Option Sl := match ds with
  | [d] => match der h d with
    | .lst xs => (blsOf xs).map fun ns => .pu (.bl (ns.any _root_.id))
    | _ => none
  | _ => none
theorem call_gSum (hc : X.calm = true) : CallR X (.builtin "sum") (rCall X gSum) := by
  intro pins s σ H xs us Q I r h
  obtain ⟨W, hh, ds, d, ok, hr, rs, e, k⟩ := h
  unfold gSum at e
  split at e
  · obtain ⟨v, rfl, r0⟩ := rs.one
    have r1 := RW.x r0 hr
    split at e
    · rename_i ys hd
      rw [hd] at r1
      obtain ⟨ns, hn, rfl⟩ := Option.map_eq_some_iff.mp e
      obtain ⟨p, vs, rfl, p1, p2⟩ := r1.lst
      cases p2.ints hn
      exact cr_sum hc pins s σ H _ us Q I r ⟨p, ns, rfl, p1, k _ W H (Ext.refl _ _) ok hr (.int _)⟩
    · cases e
  · cases e
theorem call_gAll (hc : X.calm = true) : CallR X (.builtin "all") (rCall X gAll) := by
  intro pins s σ H xs us Q I r h
  obtain ⟨W, hh, ds, d, ok, hr, rs, e, k⟩ := h
  unfold gAll at e
  split at e
  · obtain ⟨v, rfl, r0⟩ := rs.one
    have r1 := RW.x r0 hr
    split at e
    · rename_i ys hd
      rw [hd] at r1
      obtain ⟨ns, hn, rfl⟩ := Option.map_eq_some_iff.mp e
      obtain ⟨p, vs, rfl, p1, p2⟩ := r1.lst
      cases p2.bls hn
      exact cr_all hc pins s σ H _ us Q I r ⟨p, ns, rfl, p1, k _ W H (Ext.refl _ _) ok hr (.bl _)⟩
    · cases e
  · cases e
theorem call_gAny (hc : X.calm = true) : CallR X (.builtin "any") (rCall X gAny) := by
  intro pins s σ H xs us Q I r h
  obtain ⟨W, hh, ds, d, ok, hr, rs, e, k⟩ := h
  unfold gAny at e
  split at e
  · obtain ⟨v, rfl, r0⟩ := rs.one
    have r1 := RW.x r0 hr
    split at e
    · rename_i ys hd
      rw [hd] at r1
      obtain ⟨ns, hn, rfl⟩ := Option.map_eq_some_iff.mp e
      obtain ⟨p, vs, rfl, p1, p2⟩ := r1.lst
      cases p2.bls hn
      exact cr_any hc pins s σ H _ us Q I r ⟨p, ns, rfl, p1, k _ W H (Ext.refl _ _) ok hr (.bl _)⟩
    · cases e
  · cases e
/-! ### tuple, list of a sequence -/
def gTuple (h : EH) (ds : List D) : Option Sl := match ds with
  | [d] => match der h d with
    | .lst xs => some (.pu (.tup xs))
    | .tup xs => some (.pu (.tup xs))
    | _ => none
  | _ => none
def gList (h : EH) (ds : List D) : Option Sl := match ds with
  | [d] => match der h d with
    | .lst xs => some (.ow (.lst xs))
    | .tup xs => some (.ow (.lst xs))
    | _ => none
  | _ => none
theorem call_gTuple : CallR X (.type "tuple") (rCall X gTuple) := by
  intro pins s σ H xs us Q I r h
  obtain ⟨W, hh, ds, d, ok, hr, rs, e, k⟩ := h
  unfold gTuple at e
  split at e
  · obtain ⟨v, rfl, r0⟩ := rs.one
    have r1 := RW.x r0 hr
    split at e
    · rename_i ys hd
      rw [hd] at r1
      cases e
      obtain ⟨p, vs, rfl, p1, p2⟩ := r1.lst
      refine call_tupleP pins s σ H _ us Q I r ⟨p, vs, rfl, .inl ⟨p1, fun l oo hl hdn => ?_⟩⟩
      have N := newP (w := X.w) (K := X.K) (mg := X.mg) (o := .frz oo (.tup vs)) ok hl
      exact k _ _ _ N.ext N.ok (N.hr _ hr) (.tup (.inl ⟨.inr rfl, oo, upd_same, hdn⟩) (p2.ext (N.ext.gr ok)))
    · rename_i d0 ys hd
      rw [hd] at r1
      cases e
      obtain ⟨p, vs, rfl, p1, p2⟩ := (r1.pure fun _ o => nomatch o).tup
      exact call_tupleP pins s σ H _ us Q I r ⟨p, vs, rfl, .inr ⟨p1.sq, k _ W H (Ext.refl _ _) ok hr (.tup p1 p2)⟩⟩
    · cases e
  · cases e
theorem call_gList : CallR X (.type "list") (rCall X gList) := by
  intro pins s σ H xs us Q I r h
  obtain ⟨W, hh, ds, d, ok, hr, rs, e, k⟩ := h
  have fin : ∀ {vs : List V} {ys : List D}, RVs X.w X.K X.mg W H ys vs → d = .ow (.lst ys) → ∀ l, H l = none → Q (.ref l) (upd H l (.lst vs)) := fun {vs ys} p2 hd l hl => by
    have N := newF (w := X.w) (K := X.K) (mg := X.mg) (o := .lst vs) ok hl
    subst hd
    exact k _ _ _ N.ext N.ok (N.hr _ hr) ⟨l, rfl, hl, N.nm, N.np, .lst upd_same (p2.ext (N.ext.gr ok))⟩
  unfold gList at e
  split at e
  · obtain ⟨v, rfl, r0⟩ := rs.one
    have r1 := RW.x r0 hr
    split at e
    · rename_i ys hd
      rw [hd] at r1
      cases e
      obtain ⟨p, vs, rfl, p1, p2⟩ := r1.lst
      exact call_list_of pins s σ H _ us Q I r ⟨p, vs, rfl, .inl (p1), fin p2 rfl⟩
    · rename_i d0 ys hd
      rw [hd] at r1
      cases e
      obtain ⟨p, vs, rfl, p1, p2⟩ := r1.tup
      exact call_list_of pins s σ H _ us Q I r ⟨p, vs, rfl, .inr p1, fin p2 rfl⟩
    · cases e
  · cases e
end
end Mp

set_option Elab.async false
set_option linter.all false
set_option maxRecDepth 100000
/-! Mp: sorted. -/
namespace Mp
open PySem PySem.Spec L2
open PyProof.Rows hiding St

theorem pds_map : ∀ ds : List D, D.pds ds = ds.map D.pd
  | [] => rfl
  | d :: r => by rw [D.pds, List.map_cons, pds_map r]
theorem okds_all : ∀ {n : Nat} {ds : List D}, D.okds n ds = true ↔ ∀ d ∈ ds, D.okd n d = true
  | n, [] => by simp [D.okds]
  | n, d :: r => by
    rw [D.okds, Bool.and_eq_true, okds_all]
    simp
structure SortOk (ds : List D) : Prop where
  len : ds.length ≤ L
  ok : ∀ d ∈ ds, D.okd 59 d = true
  al : PySem.W.AllAlike (ds.map D.pd)
  so : PySem.W.Sortable (ds.map D.pd)
def sortD (ds : List D) : List D := ds.mergeSort (PySem.W.dataLe false D.pd)
/-- what is walked as a whole, gathered -/
def Col (X : Cx) (A : Around) (pins : List (Addr × Obj)) (σ : L2.St) (H : Hp) (s : Shared) (W : Wd) (hh : EH) (u : Value) (ds : List D) : Prop :=
  ∀ (R : List Value → Shared → Prop) (E : Value → Shared → Prop), (∀ (h' : Heap) (tk : Nat) (us : List Value) (xs : List V) (W' : Wd) (H' : Hp), (∀ b o, s.heap.get? b = some o → h'.get? b = some o) → Inv X pins σ H' { s with heap := h', toks := tk } →
    Vals xs us → Ext W H W' H' → WOk W' H' → HR X.w X.K X.mg W' H' hh → RVs X.w X.K X.mg W' H' ds xs → R us { s with heap := h', toks := tk }) → wpAny (model X.prog X.w) A (collect u) R E s
section
variable {X : Cx} {pins : List (Addr × Obj)} {σ : L2.St} {H : Hp} {s : Shared} {W : Wd} {hh : EH}
theorem col_list {a : Addr} {ds : List D} {vs : List V} {A : Around} (I : Inv X pins σ H s) (ok : WOk W H) (hr : HR X.w X.K X.mg W H hh) (q : SqL X.K H a vs) (r : RVs X.w X.K X.mg W H ds vs) : Col X A pins σ H s W hh (.ref a) ds := by
  intro R E k
  obtain ⟨its, rv, pl, hz⟩ := I.list q
  obtain ⟨o, ho, hc, n, hd⟩ := pl.isList
  exact PySem.wpAny_collect_seq a (.inl rfl) ho hc hd (fun h' kp => by
    rw [List.toList_toArray]
    exact k h' s.toks its vs W H kp (I.kept (t' := s.toks) kp) rv (Ext.refl _ _) ok hr r) (by rw [List.size_toArray, ← rv.length]; exact hz)
theorem col_tup {a : Addr} {ds : List D} {vs : List V} {A : Around} (I : Inv X pins σ H s) (ok : WOk W H) (hr : HR X.w X.K X.mg W H hh) (q : SqT X.K H a vs) (r : RVs X.w X.K X.mg W H ds vs) : Col X A pins σ H s W hh (.ref a) ds := by
  intro R E k
  obtain ⟨its, rv, ⟨o, ho, hc, n, hd⟩, hz⟩ := I.tuple q
  exact PySem.wpAny_collect_seq a (.inr rfl) ho hc hd (fun h' kp => by
    rw [List.toList_toArray]
    exact k h' s.toks its vs W H kp (I.kept (t' := s.toks) kp) rv (Ext.refl _ _) ok hr r) (by rw [List.size_toArray, ← rv.length]; exact hz)
theorem vals_acc {n : Nat} {acc : Array Value} {P : Nat → Value → Prop} {xs : List V} (h : PySem.ItemsOf P acc n) (hl : xs.length = n) (hp : ∀ i v, P i v → ∃ x, xs[i]? = some x ∧ RelV x v) : Vals xs acc.toList := by
  have key : ∀ (us : List Value) (ys : List V) (o : Nat), us.length = ys.length → (∀ (j : Nat) (v : Value), us[j]? = some v → ∃ x, ys[j]? = some x ∧ RelV x v) → Vals ys us := by
    intro us
    induction us with
    | nil =>
      intro ys _ hl _
      cases ys with
      | nil => exact .nil
      | cons _ _ => simp at hl
    | cons u us ih =>
      intro ys o hl g
      cases ys with
      | nil => simp at hl
      | cons y ys =>
        obtain ⟨x, h1, h2⟩ := g 0 u rfl
        cases h1
        exact .cons h2 (ih ys o (by simpa using hl) fun j v e => by
          obtain ⟨x, h3, h4⟩ := g (j + 1) v (by simpa using e)
          exact ⟨x, by simpa using h3, h4⟩)
  refine key acc.toList xs 0 (by rw [Array.length_toList, h.1, hl]) fun j v e => ?_
  exact hp j v (h.2 j v (by rw [← Array.getElem?_toList]; exact e))
theorem col_keys {a : Addr} {kvs : List (D × D)} {es : List Ent} {ep : Nat} {A : Around} (hA : A.handled = none) (I : Inv X pins σ H s) (ok : WOk W H) (hr : HR X.w X.K X.mg W H hh) (q : H a = some (dO a es ep)) (r : RVd X.w X.K X.mg W H kvs es) : Col X A pins σ H s W hh (.ref a) (kvs.map (·.1)) := by
  intro R E k
  obtain ⟨lo, hz, raw⟩ := dict_raw I q
  obtain ⟨ks, vs, h1, h2, h3⟩ := r.apart
  refine PySem.W.kdu_collect (PySem.KdlSrc.rawDict (es := es.toArray) (ep := ep) lo) hA raw (by simpa using hz) fun h' tk acc kp hacc => ?_
  refine k h' tk acc.toList ks W H kp (I.kept kp) (vals_acc hacc (by rw [← h1.length, List.length_map, r.len]; simp) fun i v ⟨hi, hv⟩ => ?_) (Ext.refl _ _) ok hr h1
  obtain ⟨x, y, g1, _, g2, _⟩ := h3 i es[i] (List.getElem?_eq_getElem (by simpa using hi))
  exact ⟨x, g1, by rw [hv]; simpa using g2⟩
theorem sortD_eq {bs : List (D × V)} : (bs.mergeSort (PySem.W.dataLe false fun b => b.1.pd)).map (·.1) = sortD (bs.map (·.1)) := by
  unfold sortD
  exact List.map_mergeSort fun a _ b _ => rfl
theorem RVs.zip {w : World} {K : PySem.W.Frag} {mg : Str → Option Value} {W : Wd} {H : Hp} : ∀ {ds : List D} {xs : List V}, RVs w K mg W H ds xs → ∀ b ∈ ds.zip xs, RV w K mg W H b.1 b.2
  | _, _, .nil, _, h => by simp at h
  | _, _, .cons r t, b, h => by
    rw [List.zip_cons_cons] at h
    rcases List.mem_cons.mp h with rfl | h
    · exact r
    · exact t.zip b h
theorem rvs_of {w : World} {K : PySem.W.Frag} {mg : Str → Option Value} {W : Wd} {H : Hp} : ∀ {bs : List (D × V)}, (∀ b ∈ bs, RV w K mg W H b.1 b.2) → RVs w K mg W H (bs.map (·.1)) (bs.map (·.2))
  | [], _ => .nil
  | b :: bs, h => .cons (h b List.mem_cons_self) (rvs_of fun c hc => h c (List.mem_cons_of_mem _ hc))
theorem each_vals : ∀ {bs : List (D × V)} {us : List Value}, PySem.W.EachIs (fun (u : Value) (b : D × V) => RelV b.2 u) us bs → Vals (bs.map (·.2)) us
  | [], _, .nil => .nil
  | _ :: _, _, .cons h t => .cons h (each_vals t)
theorem vals_each : ∀ {ds : List D} {xs : List V} {us : List Value}, ds.length = xs.length → Vals xs us → PySem.W.EachIs (fun (u : Value) (b : D × V) => RelV b.2 u) us (ds.zip xs)
  | [], [], _, _, .nil => .nil
  | d :: ds, x :: xs, _, h, .cons r t => .cons r (vals_each (by simpa using h) t)
  | [], _ :: _, _, h, _ => by simp at h
  | _ :: _, [], _, h, _ => by simp at h
theorem vals_reads {Hh : Heap} (I : Inv X pins σ H s) : ∀ {ds : List D} {xs : List V} {us : List Value}, RVs X.w X.K X.mg W H ds xs → (∀ d ∈ ds, D.okd 59 d = true) → Vals xs us → (∀ b o, s.heap.get? b = some o → Hh.get? b = some o) →
    PySem.W.EachIs (fun (u : Value) (b : D × V) => ∃ as, Reads Hh u b.1.pd as) us (ds.zip xs)
  | [], _, _, .nil, _, .nil, _ => .nil
  | d :: ds, _, _, .cons r t, h, .cons v vt, kp => by
    obtain ⟨as, q⟩ := Dp.reads I _ _ _ (okd_dp 59 d _ (h d List.mem_cons_self) r) v
    exact .cons ⟨as, PyProof.Rows.Reads.keeps kp q⟩ (vals_reads I t (fun e he => h e (List.mem_cons_of_mem _ he)) vt kp)
/-- sorted(..) of what may be gathered -/
theorem sorted_core {u : Value} {ds : List D} {Q : VK} (hc : X.calm = true) (hu : X.A.units + 64 < cLine) (C : Col X X.A.in1 pins σ H s W hh u ds) (so : SortOk ds)
    (k : ∀ v W' H', Ext W H W' H' → WOk W' H' → HR X.w X.K X.mg W' H' hh → rF X.w X.K X.mg W H W' H' (.ow (.lst (sortD ds))) v → Q v H') : wpAny (model X.prog X.w) X.A (call (.builtin "sorted") [u]) (EP X pins σ Q) X.xe s := by
  refine Calls.call_function_entry PyProof.Rows.kind_sorted PyProof.Rows.plain_sorted PyProof.Rows.entry_sorted (PyProof.Rows.args_sorted1 _) ?_
  unfold Builtin.«sorted»
  refine wpAny_bind (m := checkCount "sorted" 1 1 _) (wpAny_pure ?_)
  refine wpAny_bind (C _ _ fun h' tk us xs W' H' kp I1 rv e1 ok1 hr1 rs => ?_)
  have hlen : us.length ≤ sizeLine := by rw [← rv.length, ← rs.length]; exact so.len
  refine wpAny_bind (wpAny_newList ?_ hlen)
  have hoL : (h'.push (seqObj "list" us.toArray 0)).get? h'.objs.size = some (seqObj "list" us.toArray 0) := Heap.get?_push_size _ rfl
  show wpAny _ _ _ _ _ { s with heap := h'.push (seqObj "list" us.toArray 0), toks := tk }
  have hdx : ds.length = xs.length := rs.length
  have kp2 : ∀ b o, h'.get? b = some o → (PySem.W.sortingHeap (h'.push (seqObj "list" us.toArray 0)) h'.objs.size us).get? b = some o := fun b o e => by
    have hb : b < h'.objs.size := Heap.lt_size e
    refine PySem.W.sortingHeap_old (Nat.ne_of_lt hb) ?_
    exact Heap.get?_push_of_some _ e
  have eD := vals_each hdx rv
  have eR := vals_reads (Hh := PySem.W.sortingHeap (h'.push (seqObj "list" us.toArray 0)) h'.objs.size us) I1 rs so.ok rv kp2
  have em : (ds.zip xs).map (fun b => b.1.pd) = ds.map D.pd := by
    rw [show (fun (b : D × V) => b.1.pd) = D.pd ∘ Prod.fst from rfl, ← List.map_map, List.map_fst_zip (by omega)]
  have al : PySem.W.AllAlike ((ds.zip xs).map fun b => b.1.pd) := by rw [em]; exact so.al
  have sb : PySem.W.Sortable ((ds.zip xs).map fun b => b.1.pd) := by rw [em]; exact so.so
  have ub : ∀ d, d ∈ (ds.zip xs).map (fun b => b.1.pd) → X.A.in1.in1.units + d.depth < cLine := by
    intro d hd
    rw [em] at hd
    obtain ⟨d0, hd0, rfl⟩ := List.mem_map.mp hd
    have := (okd_lay 59 d0 (so.ok d0 hd0)).2
    show X.A.units + 1 + 1 + d0.pd.depth < cLine
    omega
  have S := PySem.W.SortsAt.data (prog := X.prog) (w := X.w) (A := X.A.in1.in1) (s := { s with heap := PySem.W.sortingHeap (h'.push (seqObj "list" us.toArray 0)) h'.objs.size us, toks := tk }) (PySem.W.each_map (R := fun v d => ∃ as, Reads (PySem.W.sortingHeap (h'.push (seqObj "list" us.toArray 0)) h'.objs.size us) v d as) (fun (b : D × V) => b.1.pd) eR) al sb ub
  refine wpAny_bind (wpAny_holding (wpAny_call_entry PyProof.Rows.slot_list_sort ⟨_, hoL, rfl⟩ PyProof.Rows.entry_list_sort (PySem.W.list_sort_vals (s := { s with heap := h'.push (seqObj "list" us.toArray 0), toks := tk }) hoL S hlen ⟨_, rfl, ?_⟩) (PyProof.Rows.args_list_sort _)))
  have out := PySem.W.sortVals_data (enc := fun (b : D × V) => b.1.pd) false eD eR al
  generalize PySem.W.sortVals _ false us us = outv at out
  obtain ⟨e', he'⟩ := PyProof.Rows.sortedHeap_at (vs := us) (out := outv.toArray) hoL
  have hall : ∀ b ∈ (ds.zip xs).mergeSort (PySem.W.dataLe false fun b => b.1.pd), RV X.w X.K X.mg W' H' b.1 b.2 := fun b hb => rs.zip b ((List.mergeSort_perm _ _).mem_iff.mp hb)
  have rs2 := rvs_of hall
  rw [sortD_eq, List.map_fst_zip (by omega)] at rs2
  have vo := each_vals out
  have hlen2 : (((ds.zip xs).mergeSort (PySem.W.dataLe false fun b => b.1.pd)).map (·.2)).length ≤ sizeLine := by
    rw [← rs2.length]
    unfold sortD
    rw [List.length_mergeSort]
    exact so.len
  generalize ((ds.zip xs).mergeSort (PySem.W.dataLe false fun b => b.1.pd)).map (·.2) = ys at rs2 vo hlen2
  have hn : H' h'.objs.size = none := I1.hok.fresh (Nat.le_refl _)
  have N := newF (w := X.w) (K := X.K) (mg := X.mg) (o := .lst ys) ok1 hn
  refine wpAny_pure ⟨_, rfl, .ref h'.objs.size, upd H' h'.objs.size (.lst ys), I1.laid (t' := tk) (fun b o e => ?_) (Nat.le_refl _)
    (show ObjOk X.prog X.w _ _ _ (.lst ys) from ⟨hlen2, outv, e', vo, he'⟩), rfl, ?_⟩
  · have hb : b < h'.objs.size := Heap.lt_size e
    rw [PyProof.Rows.sortedHeap_old (Nat.ne_of_lt hb) (by rw [size_push']; exact Nat.lt_succ_of_lt hb)]
    exact Heap.get?_push_of_some _ e
  · refine k _ W' _ (e1.trans ok1 N.ext) N.ok (N.hr _ hr1) ⟨_, rfl, ?_, N.nm, N.np, .lst upd_same (rs2.ext (N.ext.gr ok1))⟩
    cases z : H h'.objs.size with
    | none => rfl
    | some o => exact absurd hn (e1.there ok1 (by rw [z]; exact fun y => nomatch y))
open Classical in
noncomputable def gSorted (h : EH) (ds : List D) : Option Sl := match ds with
  | [d] => match der h d with
    | .lst xs => if SortOk xs then some (.ow (.lst (sortD xs))) else none
    | .tup xs => if SortOk xs then some (.ow (.lst (sortD xs))) else none
    | .dct kvs => if SortOk (kvs.map (·.1)) then some (.ow (.lst (sortD (kvs.map (·.1))))) else none
    | _ => none
  | _ => none
theorem call_gSorted (hc : X.calm = true) (hu : X.A.units + 64 < cLine) : CallR X (.builtin "sorted") (rCall X gSorted) := by
  intro pins s σ H xs us Q I r h
  obtain ⟨W, hh, ds, d, ok, hr, rs, e, k⟩ := h
  unfold gSorted at e
  split at e
  · obtain ⟨v, rfl, r0⟩ := rs.one
    have r1 := RW.x r0 hr
    obtain ⟨u, rfl, rx⟩ := vals1 r
    split at e
    · rename_i ys hd
      rw [hd] at r1
      split at e
      · rename_i so
        cases e
        obtain ⟨p, vs, rfl, p1, p2⟩ := r1.lst
        cases rx
        exact sorted_core hc hu (col_list I ok hr p1 p2) so k
      · cases e
    · rename_i ys hd
      rw [hd] at r1
      split at e
      · rename_i so
        cases e
        obtain ⟨p, vs, rfl, p1, p2⟩ := r1.tup
        cases rx
        exact sorted_core hc hu (col_tup I ok hr p1 p2) so k
      · cases e
    · rename_i kvs hd
      rw [hd] at r1
      split at e
      · rename_i so
        cases e
        obtain ⟨p, es, ep, rfl, p1, nd, p2⟩ := r1.dct
        cases rx
        exact sorted_core hc hu (col_keys (I.ok.hd hc) I ok hr p1 p2) so k
      · cases e
    · cases e
  · cases e
end
end Mp

set_option Elab.async false
set_option linter.all false
set_option maxRecDepth 100000
/-! Mp: sorted(d.items()), dict(pairs). -/
namespace Mp
open PySem PySem.Spec L2
open PyProof.Rows hiding St
open L2.DX

section
variable {w : World} {K : PySem.W.Frag} {mg : Str → Option Value} {W : Wd} {H H2 : Hp}
def Wd.adds (W : Wd) (as : List Addr) : Wd := ⟨W.μ, fun b => W.P b ∨ b ∈ as⟩
theorem newPs {as : List Addr} (ok : WOk W H) (ha : ∀ a ∈ as, H a = none ∧ H2 a ≠ none) (kp : ∀ b o, H b = some o → H2 b = some o) : Ext W H (W.adds as) H2 ∧ WOk (W.adds as) H2 ∧ ∀ h, HR w K mg W H h → HR w K mg (W.adds as) H2 h := by
  have there : ∀ a, H a ≠ none → H2 a ≠ none := fun a h => by
    cases q : H a with
    | none => exact absurd q h
    | some u => rw [kp a u q]; exact fun t => nomatch t
  have g : Gr W H (W.adds as) H2 := ⟨⟨[], by simp [Wd.adds]⟩, fun _ z => .inl z, fun a u q _ => kp a u q⟩
  refine ⟨⟨g.mu, g.pp, fun a u q _ => kp a u q, fun a h z => ?_, fun _ _ z => z⟩, ⟨fun a z => ?_, fun a z => ⟨there a (ok.m a z).1, fun y => ?_⟩, ok.nd⟩, fun h hr => hr.keep ok rfl g kp⟩
  · rcases z with z | z
    · exact z
    · exact absurd (ha a z).1 h
  · rcases z with z | z
    · exact there a (ok.p a z)
    · exact (ha a z).2
  · rcases y with y | y
    · exact (ok.m a z).2 y
    · exact (ok.m a z).1 (ha a y).1
end
section
variable {X : Cx} {pins : List (Addr × Obj)} {σ : L2.St} {H : Hp} {s : Shared} {W : Wd} {hh : EH}
/-- the addresses of a dict's pairs, just made -/
theorem items_rv {H2 : Hp} {W' : Wd} {as : List Addr} : ∀ {kvs : List (D × D)} {ks vs : List V} {bs : List Addr}, RVs X.w X.K X.mg W' H2 (kvs.map (·.1)) ks → RVs X.w X.K X.mg W' H2 (kvs.map (·.2)) vs → bs.length = kvs.length →
    (∀ (j : Nat) (a : Addr), bs[j]? = some a → ∃ x y o, ks[j]? = some x ∧ vs[j]? = some y ∧ W'.P a ∧ H2 a = some (.frz o (.tup [x, y])) ∧ o.dict = none) → RVs X.w X.K X.mg W' H2 (pairs kvs) (bs.map V.ref)
  | [], _, _, [], _, _, _, _ => .nil
  | [], _, _, _ :: _, _, _, h, _ => by simp at h
  | _ :: _, _, _, [], _, _, h, _ => by simp at h
  | (k, d) :: kvs, _, _, b :: bs, .cons r1 t1, .cons r2 t2, hl, g => by
    obtain ⟨x, y, oo, h1, h2, h3, h4, h5⟩ := g 0 b rfl
    simp only [List.getElem?_cons_zero, Option.some.injEq] at h1 h2
    subst h1; subst h2
    exact .cons (.tup (.inl ⟨h3, oo, h4, h5⟩) (.cons r1 (.cons r2 .nil))) (items_rv (as := as) t1 t2 (by simpa using hl) fun j a e => by
      obtain ⟨x, y, oo, h1, h2, h3⟩ := g (j + 1) a (by simpa using e)
      exact ⟨x, y, oo, by simpa using h1, by simpa using h2, h3⟩)
/-- records already laid are tracked -/
theorem takeO {h' : Heap} {tk : Nat} {P : Addr → HO → Prop} {H0 : Hp} (I0 : Inv X pins σ H0 s) : ∀ (as : List Addr) (H1 : Hp), Inv X pins σ H1 { s with heap := h', toks := tk } → as.Nodup →
    (∀ a ∈ as, s.heap.objs.size ≤ a ∧ H1 a = none ∧ ∃ o, P a o ∧ ∀ H2, ObjOk X.prog X.w H2 h' a o) →
    ∃ H2, Inv X pins σ H2 { s with heap := h', toks := tk } ∧ (∀ b o, H1 b = some o → H2 b = some o) ∧ ∀ a ∈ as, ∃ o, P a o ∧ H2 a = some o
  | [], H1, I1, _, _ => ⟨H1, I1, fun _ _ e => e, fun _ h => nomatch h⟩
  | a :: as, H1, I1, hn, g => by
    obtain ⟨g1, g2, o, g3, g4⟩ := g a List.mem_cons_self
    have I2 : Inv X pins σ (upd H1 a o) { s with heap := h', toks := tk } := I1.take (h' := h') (t' := tk) (fun _ _ _ e => e) (I0.fpOk g1 g2) (g4 _)
    obtain ⟨n1, n2⟩ := List.nodup_cons.mp hn
    obtain ⟨H2, I3, k1, k2⟩ := takeO I0 as (upd H1 a o) I2 n2 fun c hc => by
      obtain ⟨c1, c2, c3⟩ := g c (List.mem_cons_of_mem _ hc)
      have ne : c ≠ a := fun z => n1 (by rw [← z]; exact hc)
      exact ⟨c1, by rw [upd_ne ne]; exact c2, c3⟩
    refine ⟨H2, I3, fun b u e => k1 b u (by rw [upd_ne (ne_of_none e g2)]; exact e), fun c hc => ?_⟩
    rcases List.mem_cons.mp hc with rfl | hc
    · exact ⟨o, g3, k1 _ _ upd_same⟩
    · exact k2 c hc
theorem vals_refs : ∀ as : List Addr, Vals (as.map V.ref) (as.map Value.ref)
  | [] => .nil
  | a :: as => .cons rfl (vals_refs as)
theorem col_items {p a : Addr} {kvs : List (D × D)} {es : List Ent} {ep : Nat} {A : Around} (hA : A.handled = none) (I : Inv X pins σ H s) (ok : WOk W H) (hr : HR X.w X.K X.mg W H hh) (hp : H p = some (itemsO p a)) (q : H a = some (dO a es ep)) (r : RVd X.w X.K X.mg W H kvs es) :
    Col X A pins σ H s W hh (.ref p) (pairs kvs) := by
  intro R E k
  have view : s.heap.IsItemsView p a := (show ObjOk X.prog X.w H s.heap p (itemsO p a) from I.hok p _ hp).1
  obtain ⟨lo, hz, _⟩ := dict_raw I q
  have raw := raw_of I q
  obtain ⟨ks, vs, h1, h2, h3⟩ := r.apart
  refine PySem.W.dil_collect hA view raw (by simpa using hz) fun h' tk as kp hl hG => ?_
  have lak : as.length = kvs.length := by rw [hl, r.len]; simp
  have nd : as.Nodup := List.Pairwise.imp (fun h => Nat.ne_of_lt h) hG.rise
  have I1 : Inv X pins σ H { s with heap := h', toks := tk } := I.kept kp
  have pr : ∀ (j : Nat) (b : Addr), as[j]? = some b → ∃ x y, ks[j]? = some x ∧ vs[j]? = some y ∧ ∃ o : Obj, o.dict = none ∧ ∀ H2, ObjOk X.prog X.w H2 h' b (.frz o (.tup [x, y])) := fun j b hj => by
    obtain ⟨hj', hg⟩ := hG.pairs j b hj
    have hj2 : j < es.length := by simpa using hj'
    obtain ⟨x, y, g1, g2, g3, g4⟩ := h3 j es[j] (List.getElem?_eq_getElem hj2)
    exact ⟨x, y, g1, g2, _, rfl, fun H2 => pair_ok (by simpa using hg) g3 g4⟩
  have fr : ∀ b ∈ as, s.heap.objs.size ≤ b := fun b hb => Nat.le_of_lt (hG.above b hb)
  obtain ⟨H2, I2, g2, q2⟩ := takeO (P := fun b u => ∃ j x y o, as[j]? = some b ∧ ks[j]? = some x ∧ vs[j]? = some y ∧ u = HO.frz o (.tup [x, y]) ∧ o.dict = none) I as H I1 nd fun b hb => by
    obtain ⟨j, hj⟩ := List.mem_iff_getElem?.mp hb
    obtain ⟨x, y, g1, g2, o, g3, g4⟩ := pr j b hj
    exact ⟨fr b hb, I.hok.fresh (fr b hb), _, ⟨j, x, y, o, hj, g1, g2, rfl, g3⟩, g4⟩
  obtain ⟨e1, ok1, hr1⟩ := newPs (w := X.w) (K := X.K) (mg := X.mg) (H2 := H2) (as := as) ok (fun b hb => ⟨I.hok.fresh (fr b hb), by
    obtain ⟨ys, _, e⟩ := q2 b hb
    rw [e]; exact fun z => nomatch z⟩) g2
  refine k h' tk _ _ (W.adds as) H2 kp I2 (vals_refs as) e1 ok1 (hr1 _ hr) (items_rv (as := as) (h1.ext (e1.gr ok)) (h2.ext (e1.gr ok)) lak fun j b hj => ?_)
  obtain ⟨ys, ⟨j', x, y, o, g1, g3, g4, rfl, g5⟩, e⟩ := q2 b (List.mem_of_getElem? hj)
  have : j = j' := (List.getElem?_inj (List.getElem?_eq_some_iff.mp hj).1 nd).mp (hj.trans g1.symm)
  subst this
  exact ⟨x, y, o, g3, g4, .inr (List.mem_of_getElem? hj), e, g5⟩
/-! d.items() as a value -/
def tView (te : TE) : TE := fun σ H Q => te σ H fun x H1 => ∃ d es ep, x = .ref d ∧ H1 d = some (dO d es ep) ∧ ∀ p, H1 p = none → Q (.ref p) (upd H1 p (itemsO p d))
theorem pe_view {e : Expr} {te : TE} {apos cpos : Pos} (he : PE X e te) (hbase : attributeBase e "items" X.env (eval e X.env) = eval e X.env) (hline : (apos.endLine == cpos.line) = true) :
    PE X (.Call (.Attribute e "items" apos) [] [] cpos) (tView te) := by
  refine ⟨fun pins s σ H Q I h => ?_⟩
  refine wpAny_Call_method (T := "dict") (id := "dict.items") hbase rfl hline F.plainAttrs_dict F.slot_dict_items F.type_dict_items (thn (he.run pins s σ H _ I h) fun u s1 ⟨x, H1, I1, rx, d, es, ep, ex, hd, q⟩ => ?_)
  subst ex
  obtain rfl : u = Value.ref d := rx
  have rw1 := raw_of I1 hd
  have hs := (dict_raw I1 hd).1
  obtain ⟨o, ho, hx, hdat⟩ := id rw1
  refine ⟨rw1.typeIs, fun a ea => by cases ea; exact ⟨o, ho, hx.2.1⟩, ?_⟩
  have I2 : Inv X pins σ (upd H1 s1.heap.objs.size (itemsO s1.heap.objs.size d)) { s1 with heap := s1.heap.push { cls := .type "dict_items", data := .fields #[.ref d] } } := I1.laid (a := s1.heap.objs.size) (t' := s1.toks) (fun b ob q => Heap.get?_push_of_some _ q) (Nat.le_refl _)
    (itemsO_ok (Heap.get?_push_size _ rfl))
  have fin : EP X pins σ Q (.ref s1.heap.objs.size) { s1 with heap := s1.heap.push { cls := .type "dict_items", data := .fields #[.ref d] } } := ⟨.ref _, _, I2, rfl, q _ (I1.hok.fresh (Nat.le_refl _))⟩
  show wpAny _ _ (callWith cpos (.builtin "dict.items") [.ref d] [] []) _ X.xe s1
  exact method_meetsIn F.slot_dict_items F.entry_dict_items rfl (PySem.evalArgs_none ⟨rfl, rw1.typeIs, F.args_dict_items_1 _, _, meets_dict_items_raw d hs, ⟨_, _, rw1⟩, fin⟩)
def rSortV (X : Cx) : List V → Hp → VK → Prop := fun xs H Q => ∃ W hh p a es ep kvs, WOk W H ∧ HR X.w X.K X.mg W H hh ∧ xs = [.ref p] ∧ H p = some (itemsO p a) ∧ H a = some (dO a es ep) ∧ RVd X.w X.K X.mg W H kvs es ∧ SortOk (pairs kvs) ∧
  ∀ v W' H', Ext W H W' H' → WOk W' H' → HR X.w X.K X.mg W' H' hh → rF X.w X.K X.mg W H W' H' (.ow (.lst (sortD (pairs kvs)))) v → Q v H'
theorem call_sortV (hc : X.calm = true) (hu : X.A.units + 64 < cLine) : CallR X (.builtin "sorted") (rSortV X) := by
  intro pins s σ H xs us Q I r h
  obtain ⟨W, hh, p, a, es, ep, kvs, ok, hr, rfl, hp, ha, rd, so, k⟩ := h
  obtain ⟨u, rfl, rx⟩ := vals1 r
  cases rx
  exact sorted_core hc hu (col_items (I.ok.hd hc) I ok hr hp ha rd) so k
open Classical in
noncomputable def mSortIt (m : EM) : FM := fun τ h => (m τ h).bind fun d h1 => match der h1 d with
  | .dct kvs => if SortOk (pairs kvs) then .ok (.ow (.lst (sortD (pairs kvs)))) h1 else .no
  | _ => .no
theorem dO_ne {p a d : Addr} {es : List Ent} {ep : Nat} (H1 : Hp) (hp : H1 p = none) (ha : H1 a = some (dO a es ep)) : a ≠ p := fun z => by rw [z, hp] at ha; cases ha
theorem sim_sortIt {e : Expr} {m : EM} {p apos cpos pos : Pos} (hc : X.calm = true) (hu : X.A.units + 64 < cLine) (hg : Gl X "sorted") (hm : X.mg "sorted" = none) (h : SimW X e m) (hbase : attributeBase e "items" X.env (eval e X.env) = eval e X.env) (hline : (apos.endLine == cpos.line) = true)
    (hst : starEach [.Call (.Attribute e "items" apos) [] [] cpos] X.env = (false, eval (.Call (.Attribute e "items" apos) [] [] cpos) X.env) :: starEach [] X.env) (hpl : (backTo pos (starEach [] X.env)).any (·.1) = false) :
    SimF X (.Call (.Name "sorted" p) [.Call (.Attribute e "items" apos) [] [] cpos] [] pos) (mSortIt m) := by
  refine ⟨fun Wx tk => PE.imp (pe_callB (call_sortV hc hu) hg hm (by decide) (pa_cons (pe_view (h.run Wx tk) hbase hline) pa_nil hst) (by decide) (by decide) hst hpl) fun σ H Q ⟨W0, H0, W, τ, hp, sr, g⟩ => ?_⟩
  refine ⟨W0, H0, W, τ, hp, sr, Ko.step monoF g fun d h1 v W1 H1 _ e1 ok1 hr1 r g1 => ?_⟩
  have r1 := RW.x r hr1
  split at g1
  · rename_i kvs hd
    rw [hd] at r1
    split at g1
    · rename_i so
      obtain ⟨a, es, ep, rfl, q1, nd, q2⟩ := r1.dct
      refine ⟨a, es, ep, rfl, q1, fun p hpn => ?_⟩
      have N := newF (w := X.w) (K := X.K) (mg := X.mg) (o := itemsO p a) ok1 hpn
      have hne : a ≠ p := fun z => by rw [z, hpn] at q1; cases q1
      exact ⟨W1, h1, p, a, es, ep, kvs, N.ok, N.hr _ hr1, rfl, upd_same, by rw [upd_ne hne]; exact q1, q2.ext (N.ext.gr ok1), so, fun v W' H' e2 ok2 hr2 q => g1 v W' H' (N.ext.trans N.ok e2) ok2 hr2 (monoF _ _ _ _ _ _ _ _ N.ext N.ok q)⟩
    · exact g1.elim
  · exact g1.elim
end
end Mp

set_option Elab.async false
set_option linter.all false
set_option maxRecDepth 100000
/-! Mp: dict(pairs). -/
namespace Mp
open PySem PySem.Spec L2
open PyProof.Rows hiding St

def pairsOf : List D → Option (List (D × D))
  | [] => some []
  | .tup [k, d] :: r => (pairsOf r).map ((k, d) :: ·)
  | _ :: _ => none
def dictOf (kvs acc : List (D × D)) : List (D × D) := kvs.foldl (fun acc e => dput acc e.1 e.2) acc
/-- pairs of values, each a tuple -/
inductive Pz (w : World) (K : PySem.W.Frag) (mg : Str → Option Value) (W : Wd) (H : Hp) : List (D × D) → List (Value × Value) → Prop
  | nil : Pz w K mg W H [] []
  | cons {k d kv v ku u r l} : RV w K mg W H k kv → RelV kv ku → RV w K mg W H d v → RelV v u → Pz w K mg W H r l → Pz w K mg W H ((k, d) :: r) ((ku, u) :: l)
theorem pairsOf_cons {d : D} {r : List D} {kvs : List (D × D)} (h : pairsOf (d :: r) = some kvs) : ∃ k e t, d = .tup [k, e] ∧ pairsOf r = some t ∧ kvs = (k, e) :: t := by
  unfold pairsOf at h
  split at h
  · cases ‹_ :: _ = _›
  · rename_i k e r' heq
    cases heq
    obtain ⟨t, h1, rfl⟩ := Option.map_eq_some_iff.mp h
    exact ⟨k, e, t, rfl, h1, rfl⟩
  · cases h
section
variable {X : Cx} {pins : List (Addr × Obj)} {σ : L2.St} {H : Hp} {s : Shared} {W : Wd} {hh : EH}
theorem pairs_raw (I : Inv X pins σ H s) : ∀ {ds : List D} {vs : List V} {us : List Value} {kvs : List (D × D)}, RVs X.w X.K X.mg W H ds vs → Vals vs us → pairsOf ds = some kvs →
    ∃ (bs : List Addr) (ps : List (Value × Value)), us = bs.map Value.ref ∧ bs.length = kvs.length ∧ ps.length = kvs.length ∧ Pz X.w X.K X.mg W H kvs ps ∧ ∀ (j : Nat) (k v : Value), ps[j]? = some (k, v) → ∃ b, bs[j]? = some b ∧ PairAt s.heap b k v
  | [], _, _, kvs, .nil, .nil, h => by
    simp only [pairsOf, Option.some.injEq] at h
    subst h
    exact ⟨[], [], rfl, rfl, rfl, .nil, fun j k v e => by simp at e⟩
  | d :: r, _, _, kvs, .cons q t, .cons x xt, h => by
    obtain ⟨k, e, t', rfl, h1, rfl⟩ := pairsOf_cons h
    obtain ⟨bs, ps, p1, p2, p3, p4, p5⟩ := pairs_raw I t xt h1
    cases q with
    | tup p z =>
      cases x
      cases z with
      | cons z1 z2 =>
        cases z2 with
        | cons z2 z3 =>
          cases z3
          obtain ⟨its, rv, it, _⟩ := I.tuple p.sq
          obtain ⟨u1, u2, rfl, y1, y2⟩ := vals2 rv
          rename_i a _ _ _
          refine ⟨a :: bs, (u1, u2) :: ps, by rw [List.map_cons, p1], by simp [p2], by simp [p3], .cons z1 y1 z2 y2 p4, fun j k v e => ?_⟩
          cases j with
          | zero =>
            simp only [List.getElem?_cons_zero, Option.some.injEq] at e
            cases e
            exact ⟨a, rfl, .inl it⟩
          | succ j =>
            obtain ⟨b, b1, b2⟩ := p5 j k v (by simpa using e)
            exact ⟨b, by simpa using b1, b2⟩
theorem pz_flat {kvs : List (D × D)} {ps : List (Value × Value)} (p : Pz X.w X.K X.mg W H kvs ps) (hf : allFlat kvs = true) : ∃ l, Fz X.w X.K X.mg W H kvs l ∧ ∀ (i : Nat) (k v : Value), ps[i]? = some (k, v) → ∃ κ, l[i]? = some (κ, v) ∧ (mixKind X.prog X.w).is κ k = true := by
  induction p with
  | nil => exact ⟨[], .nil, fun i k v e => by simp at e⟩
  | cons r1 r2 r3 r4 t ih =>
    unfold allFlat at hf
    rw [List.all_cons, Bool.and_eq_true] at hf
    obtain ⟨κ, hκ, h8⟩ := isFlat_k hf.1
    obtain ⟨l, h1, h2⟩ := ih hf.2
    refine ⟨(κ, _) :: l, .cons hκ h8 r3 r4 h1, fun i k v e => ?_⟩
    cases i with
    | zero =>
      simp only [List.getElem?_cons_zero, Option.some.injEq] at e
      cases e
      exact ⟨κ, rfl, flat_rel hκ (.inl r1) r2⟩
    | succ i =>
      obtain ⟨κ', g1, g2⟩ := h2 i k v (by simpa using e)
      exact ⟨κ', by simpa using g1, g2⟩
theorem pz_tup {kvs : List (D × D)} {ps : List (Value × Value)} (p : Pz X.w X.K X.mg W H kvs ps) (hf : allTkey kvs = true) : ∃ l, Tz X.w X.K X.mg W H kvs l ∧ ∀ (i : Nat) (k v : Value), ps[i]? = some (k, v) → ∃ n b, l[i]? = some (n, b, v) ∧ k = .ref b := by
  induction p with
  | nil => exact ⟨[], .nil, fun i k v e => by simp at e⟩
  | cons r1 r2 r3 r4 t ih =>
    unfold allTkey at hf
    rw [List.all_cons, Bool.and_eq_true] at hf
    obtain ⟨n, b, hn, h8, e1, rb⟩ := isTkey_k hf.1 (.inl r1)
    cases e1
    cases r2
    obtain ⟨l, h1, h2⟩ := ih hf.2
    refine ⟨(n, b, _) :: l, .cons hn h8 rb r3 r4 h1, fun i k v e => ?_⟩
    cases i with
    | zero =>
      simp only [List.getElem?_cons_zero, Option.some.injEq] at e
      cases e
      exact ⟨n, b, rfl, rfl⟩
    | succ i =>
      obtain ⟨n', b', g1, g2⟩ := h2 i k v (by simpa using e)
      exact ⟨n', b', by simpa using g1, g2⟩
theorem Fz.fold : ∀ {kvs : List (D × D)} {l : List (Key × Value)} {acc : List (D × D)} {la : List (Key × Value)}, Fz X.w X.K X.mg W H kvs l → Fz X.w X.K X.mg W H acc la → Fz X.w X.K X.mg W H (dictOf kvs acc) (merged la l)
  | _, _, _, _, .nil, a => a
  | _, _, _, _, .cons h1 h2 h3 h4 t, a => by
    have z := Fz.fold t (flat_put h1 h2 h3 h4 a)
    exact z
theorem Tz.fold : ∀ {kvs : List (D × D)} {l : List (NestedKey × Addr × Value)} {acc : List (D × D)} {la : List (NestedKey × Addr × Value)}, Tz X.w X.K X.mg W H kvs l → Tz X.w X.K X.mg W H acc la → Tz X.w X.K X.mg W H (dictOf kvs acc) (storedAllH la l)
  | _, _, _, _, .nil, a => a
  | _, _, _, _, .cons h1 h2 h3 h4 h5 t, a => by
    have z := Tz.fold t (tup_put h1 h2 h3 h4 h5 a)
    exact z
theorem dictOf_kn : ∀ {kvs acc : List (D × D)}, (allFlat kvs = true ∧ allFlat acc = true) ∨ (allTkey kvs = true ∧ allTkey acc = true) → KNd acc → KNd (dictOf kvs acc)
  | [], _, _, h => h
  | (k, d) :: r, acc, hf, h => by
    rcases hf with ⟨h1, h2⟩ | ⟨h1, h2⟩
    · have h1' := h1
      unfold allFlat at h1'
      rw [List.all_cons, Bool.and_eq_true] at h1'
      have hk : dOk acc k = true := by unfold dOk dFlat; rw [h1'.1, h2]; rfl
      exact dictOf_kn (kvs := r) (.inl ⟨h1'.2, all_put (p := isFlat) h1'.1 h2⟩) (h.put hk d)
    · have h1' := h1
      unfold allTkey at h1'
      rw [List.all_cons, Bool.and_eq_true] at h1'
      have hk : dOk acc k = true := by unfold dOk dTup; rw [h1'.1, h2, Bool.and_self, Bool.or_true]
      exact dictOf_kn (kvs := r) (.inr ⟨h1'.2, all_put (p := isTkey) h1'.1 h2⟩) (h.put hk d)
theorem dictOf_len : ∀ {kvs acc : List (D × D)}, (dictOf kvs acc).length ≤ acc.length + kvs.length
  | [], _ => by simp [dictOf]
  | (k, d) :: r, acc => by
    have h1 := dput_len acc k d
    have h2 := dictOf_len (kvs := r) (acc := dput acc k d)
    show (dictOf r (dput acc k d)).length ≤ _
    simp only [List.length_cons]
    omega
theorem kn_nil : KNd [] := ⟨.nil, .inl rfl⟩
/-- a new dict is tracked -/
theorem laid_dict {h' : Heap} {tk : Nat} {a : Addr} {es : List Ent} {ep : Nat} (I : Inv X pins σ H s) (kp : ∀ b o, s.heap.get? b = some o → h'.get? b = some o) (ha : s.heap.objs.size ≤ a) (hz : es.length ≤ sizeLine) (ho : ∃ o, h'.get? a = some o ∧ o.ExactDict ∧ o.data = .dict es.toArray ep) :
    Inv X pins σ (upd H a (dO a es ep)) { s with heap := h', toks := tk } := by
  have big : (a == sysModules) = false := beq_eq_false_iff_ne.mpr (Ne.symm (Nat.ne_of_lt (Nat.lt_of_lt_of_le I.big ha)))
  obtain ⟨o, h1, h2⟩ := ho
  refine I.laid (t' := tk) kp ha ⟨⟨big, hz, o, h1, h2⟩, ⟨o, h1⟩, fun g1 g2 ⟨z1, z2, o1, z3, z4⟩ k => ⟨z1, z2, o1, k _ z3, z4⟩⟩
def gDict (h : EH) (ds : List D) : Option Sl := match ds with
  | [d] => match der h d with
    | .lst xs => match pairsOf xs with
      | some kvs => if (allFlat kvs || allTkey kvs) = true then some (.ow (.dct (dictOf kvs []))) else none
      | none => none
    | .tup xs => match pairsOf xs with
      | some kvs => if (allFlat kvs || allTkey kvs) = true then some (.ow (.dct (dictOf kvs []))) else none
      | none => none
    | _ => none
  | _ => none
theorem dict_core {T : String} {a : Addr} {ds : List D} {vs : List V} {us : List Value} {kvs : List (D × D)} {Q : VK} (hc : X.calm = true) (hu : X.A.units + 64 < cLine) (I : Inv X pins σ H s) (ok : WOk W H) (hr : HR X.w X.K X.mg W H hh) (r : RVs X.w X.K X.mg W H ds vs) (rv : Vals vs us) (hz : vs.length ≤ sizeLine)
    (hp : pairsOf ds = some kvs) (hf : (allFlat kvs || allTkey kvs) = true)
    (arg : ∀ (Ts : Nat → Addr) (ps : List (Value × Value)), ps.length = us.length → (∀ (j : Nat) (k v : Value), ps[j]? = some (k, v) → us[j]? = some (.ref (Ts j)) ∧ PairAt s.heap (Ts j) k v) →
      ∃ fp OK, PairArg X.prog X.w T a fp [] ps.length (PairRel ps) OK ∧ OK s.heap)
    (k : ∀ v W' H', Ext W H W' H' → WOk W' H' → HR X.w X.K X.mg W' H' hh → rF X.w X.K X.mg W H W' H' (.ow (.dct (dictOf kvs []))) v → Q v H') : wpAny (model X.prog X.w) X.A (call (.type "dict") [.ref a]) (EP X pins σ Q) X.xe s := by
  obtain ⟨bs, ps, p1, p2, p3, p4, p5⟩ := pairs_raw I r rv hp
  subst p1
  have hl : ps.length = (bs.map Value.ref).length := by rw [p3, List.length_map, p2]
  obtain ⟨fp, OK, P, okk⟩ := arg (fun j => bs.getD j 0) ps hl fun j k v e => by
    obtain ⟨b, b1, b2⟩ := p5 j k v e
    have : bs.getD j 0 = b := by rw [List.getD_eq_getElem?_getD, b1]; rfl
    rw [this]
    exact ⟨by rw [List.getElem?_map, b1]; rfl, b2⟩
  have hsz : ps.length ≤ sizeLine := by
    have := rv.length
    rw [hl, ← this]
    exact hz
  have dl : (dictOf kvs []).length ≤ sizeLine := Nat.le_trans dictOf_len (by rw [List.length_nil, Nat.zero_add, ← p3]; exact hsz)
  have hn : H s.heap.objs.size = none := I.hok.fresh (Nat.le_refl _)
  have fin : ∀ {h' : Heap} {tk : Nat} {es : List Ent} {ep : Nat}, (∀ b o, s.heap.get? b = some o → h'.get? b = some o) → (∃ o, h'.get? s.heap.objs.size = some o ∧ o.ExactDict ∧ o.data = .dict es.toArray ep) → KNd (dictOf kvs []) → RVd X.w X.K X.mg W H (dictOf kvs []) es →
      EP X pins σ Q (.ref s.heap.objs.size) { s with heap := h', toks := tk } := fun {h' tk es ep} kp ho kn rd => by
    have N := newF (w := X.w) (K := X.K) (mg := X.mg) (o := dO s.heap.objs.size es ep) ok hn
    exact ⟨.ref _, _, laid_dict I kp (Nat.le_refl _) (by rw [← rd.len]; exact dl) ho, rfl, k _ _ _ N.ext N.ok (N.hr _ hr) ⟨_, rfl, hn, N.nm, N.np, .dct upd_same kn (rd.ext (N.ext.gr ok))⟩⟩
  by_cases h1 : allFlat kvs = true
  · obtain ⟨l, f1, f2⟩ := pz_flat (X := X) p4 h1
    refine PySem.call_dict_pairs (knd := mixKind X.prog X.w) (kvs := l) P (I.ok.hd hc) okk ⟨by rw [← f1.len, p3], f2⟩ hsz fun h' tk hd hk => ?_
    obtain ⟨o, ents, ep, ho, hx, hdat, hkk, hpp, _⟩ := hd
    have rd := flat_close (P := X.prog) (f1.fold .nil) hpp fun e he => hkk e (Array.mem_toList_iff.mp he)
    exact fin (es := ents.toList) (ep := ep) (fun b o e => hk b o (by simp) e) ⟨o, ho, hx, by simpa using hdat⟩ (dictOf_kn (.inl ⟨h1, rfl⟩) kn_nil) rd
  · have h2 : allTkey kvs = true := by
      rw [Bool.or_eq_true] at hf
      exact hf.resolve_left h1
    obtain ⟨l, f1, f2⟩ := pz_tup (X := X) p4 h2
    have st : ∀ {kvs : List (D × D)} {l : List (NestedKey × Addr × Value)}, Tz X.w X.K X.mg W H kvs l → ∀ h', (∀ b o, s.heap.get? b = some o → h'.get? b = some o) → ∀ x ∈ l, (nestedKind X.prog X.w).is h' x.1 x.2.1 := by
      intro kvs l t h' kp
      induction t with
      | nil => intro x z; cases z
      | cons hn h8 rk _ _ _ ih =>
        intro x z
        rcases List.mem_cons.mp z with z | z
        · subst z
          obtain ⟨q1, q2⟩ := tup_is I h8 hn rk
          exact ⟨NestedIs.at (fun a o _ _ e _ => kp a o e) _ _ q1, q2⟩
        · exact ih x z
    refine PySem.call_dict_pairsH (knd := nestedKind X.prog X.w) (ps := l) P (I.ok.hd hc) (by show X.A.units + 1 + 1 + 8 < cLine; omega) okk ⟨by rw [← f1.len, p3], f2⟩ (fun h' kp x hx => st f1 h' (fun b o e => kp b o (Nat.ne_of_lt (Heap.lt_size e)) (by simp) e) x hx) hsz fun h' tk hd hk => ?_
    obtain ⟨o, ents, ep, ho, hx, hdat, he, _, _⟩ := hd
    have rd := tup_close (P := X.prog) (f1.fold .nil)
    rw [← he] at rd
    exact fin (es := ents.toList) (ep := ep) (fun b o e => hk b o (by simp) e) ⟨o, ho, hx, by simpa using hdat⟩ (dictOf_kn (.inr ⟨h2, rfl⟩) kn_nil) rd
theorem call_gDict (hc : X.calm = true) (hu : X.A.units + 64 < cLine) : CallR X (.type "dict") (rCall X gDict) := by
  intro pins s σ H xs us Q I r h
  obtain ⟨W, hh, ds, d, ok, hr, rs, e, k⟩ := h
  unfold gDict at e
  split at e
  · obtain ⟨v, rfl, r0⟩ := rs.one
    have r1 := RW.x r0 hr
    obtain ⟨u, rfl, rx⟩ := vals1 r
    split at e
    · rename_i ys hd
      rw [hd] at r1
      split at e
      · rename_i kvs hp
        split at e
        · rename_i hf
          cases e
          obtain ⟨p, vs, rfl, p1, p2⟩ := r1.lst
          cases rx
          obtain ⟨its, rv, ⟨o, n, ho, hcc, hdd, hdat⟩, hz⟩ := I.list (p1)
          refine dict_core (T := "list") hc hu I ok hr p2 rv hz hp hf (fun Ts ps hl hpp => ⟨_, _, PySem.PairArg.list p its.toArray Ts ps, ⟨o, n, ho, hcc, hdd, hdat⟩, by rw [List.size_toArray, hl], fun j k v e => ?_⟩) k
          obtain ⟨g1, g2⟩ := hpp j k v e
          exact ⟨by simpa using g1, g2⟩
        · cases e
      · cases e
    · rename_i d0 ys hd
      rw [hd] at r1
      split at e
      · rename_i kvs hp
        split at e
        · rename_i hf
          cases e
          obtain ⟨p, vs, rfl, p1, p2⟩ := (r1.pure fun _ o => nomatch o).tup
          cases rx
          obtain ⟨its, rv, ⟨o, ho, hcc, n, hdat⟩, hz⟩ := I.tuple p1.sq
          have hdd : o.dict = none := by
            rcases p1 with ⟨_, o', q1, q2⟩ | ⟨⟨o', _, _, q1, _⟩, q2⟩
            · have := (I.hok p _ q1).1
              rw [ho] at this
              cases this
              exact q2
            · have := I.kIn p o' q1
              rw [ho] at this
              cases this
              exact q2 _ q1
          refine dict_core (T := "tuple") hc hu I ok hr p2 rv hz hp hf (fun Ts ps hl hpp => ⟨_, _, PySem.PairArg.tuple p its.toArray Ts ps, ⟨o, n, ho, hcc, hdd, hdat⟩, by rw [List.size_toArray, hl], fun j k v e => ?_⟩) k
          obtain ⟨g1, g2⟩ := hpp j k v e
          exact ⟨by simpa using g1, g2⟩
        · cases e
      · cases e
    · cases e
  · cases e
end
end Mp

set_option Elab.async false
set_option linter.all false
set_option maxRecDepth 100000
/-! Mp: own calls, raise, try; a def by its meaning. -/
namespace Mp
open PySem PySem.Spec L2
open PyProof.Rows hiding St

/-! ### what a def means, and promises -/
abbrev FN := List D → EH → R Sl
def spOf (w : World) (K : PySem.W.Frag) (mg : Str → Option Value) (n : Nat) (F : FN) : Sp := fun vs H Q E => vs.length = n ∧ ∃ W ds h, WOk W H ∧ HR w K mg W H h ∧ RVs w K mg W H ds vs ∧ Ko w K mg (rF w K mg) W H (fun c d H => E c d H) (F ds h) Q
structure Cal (P : Program) (w : World) (K : PySem.W.Frag) (mg : Str → Option Value) (base : Heap) (k : Nat) (x : Str) (n : Nat) (F : FN) : Prop where
  ex : ∃ (f : Addr) (fd : FuncData) (ps : List Str), FnOk P w K mg base (L2.CX P w) k f fd ps (spOf w K mg n F) ∧ mg x = some (.ref f) ∧ PySem.W.keepIn K (.ref f) = true ∧ Binds K fd ps []
theorem Cal.mono {P : Program} {w : World} {K : PySem.W.Frag} {mg : Str → Option Value} {base : Heap} {j k : Nat} {x : Str} {n : Nat} {F : FN} (c : Cal P w K mg base j x n F) (h : j ≤ k) : Cal P w K mg base k x n F := by
  obtain ⟨f, fd, ps, F, r⟩ := c.ex
  exact ⟨f, fd, ps, F.mono h, r⟩
def startT (N : Nat) (ds : List D) : Tu := ds.map Sl.pu ++ List.replicate (N - ds.length) Sl.em
def bodyEnd : Sz → R Sl
  | .ret s h => .ok s h
  | .nx _ h => .ok (.pu .non) h
  | .exc x _ h => .exc x h
  | _ => .no
/-- a def of n parameters and N names whose body is m -/
def bodyF (N n : Nat) (m : SM) : FN := fun ds h => if ds.length = n then bodyEnd (m (startT N ds) h) else .no
theorem sr_start {w : World} {K : PySem.W.Frag} {mg : Str → Option Value} {W : Wd} {H : Hp} {h : EH} {ds : List D} {vs : List V} {N : List Str} (ok : WOk W H) (hr : HR w K mg W H h) (r : RVs w K mg W H ds vs) : SR w K mg W H W H (startT N.length ds) (L2.start N vs) h where
  ok0 := ok
  ok := ok
  hr := hr
  ext := Ext.refl _ _
  len := by
    unfold startT L2.start
    rw [List.length_append, List.length_append, List.length_map, List.length_map, List.length_replicate, List.length_replicate, r.length]
  pu := fun i d q => by
    unfold startT at q
    unfold L2.start
    by_cases hi : i < ds.length
    · rw [List.getElem?_append_left (by simpa using hi), List.getElem?_map, Option.map_eq_some_iff] at q
      obtain ⟨e, h1, h2⟩ := q
      cases h2
      obtain ⟨v, h3, h4⟩ := r.get h1
      exact ⟨v, by rw [List.getElem?_append_left (by rw [List.length_map, ← r.length]; exact hi), List.getElem?_map, h3]; rfl, h4⟩
    · rw [List.getElem?_append_right (by simpa using hi), List.getElem?_replicate] at q
      split at q <;> cases q
  ow := fun i d q => by
    unfold startT at q
    by_cases hi : i < ds.length
    · rw [List.getElem?_append_left (by simpa using hi), List.getElem?_map, Option.map_eq_some_iff] at q
      obtain ⟨e, h1, h2⟩ := q
      cases h2
    · rw [List.getElem?_append_right (by simpa using hi), List.getElem?_replicate] at q
      split at q <;> cases q
  sep := fun i j d e a _ q => by
    unfold startT at q
    by_cases hi : i < ds.length
    · rw [List.getElem?_append_left (by simpa using hi), List.getElem?_map, Option.map_eq_some_iff] at q
      obtain ⟨e, h1, h2⟩ := q
      cases h2
    · rw [List.getElem?_append_right (by simpa using hi), List.getElem?_replicate] at q
      split at q <;> cases q
theorem body_sound {X : Cx} {m : SM} {W : Wd} {H : Hp} {h : EH} {ds : List D} {vs : List V} {N : List Str} {Q : VK} {E : XK} (ok : WOk W H) (hr : HR X.w X.K X.mg W H h) (r : RVs X.w X.K X.mg W H ds vs)
    (k : Ko X.w X.K X.mg (rF X.w X.K X.mg) W H (fun c d H => E c d H) (bodyEnd (m (startT N.length ds) h)) Q) : TSm X m (fun c d _ H => E c d H) { nx := fun _ H' => Q .non H', rt := Q } (L2.start N vs) H := by
  refine ⟨W, H, W, startT N.length ds, h, sr_start ok hr r, ?_⟩
  cases q : m (startT N.length ds) h with
  | nx τ' h' =>
    rw [q] at k
    exact fun σ' W' H' _ s => k .non W' H' s.ext s.ok s.hr .non
  | ret s h' =>
    rw [q] at k
    exact fun v W' H' e ok' hr' r' => k v W' H' e ok' hr' r'
  | exc x τ' h' =>
    rw [q] at k
    exact fun cls dd σ' W' H' _ s xr => k cls dd W' H' s.ext s.ok s.hr xr
  | brk _ _ => rw [q] at k; exact k.elim
  | cnt _ _ => rw [q] at k; exact k.elim
  | no => rw [q] at k; exact k.elim
/-- THE RULE for a def -/
theorem fn_ok {P : Program} {w : World} {K : PySem.W.Frag} {mg : Str → Option Value} {base : Heap} {x qual : Str} {st : Stmt} {f : Addr} {fd : FuncData} {N ps : List Str} {k : Nat} {m : SM} (Fu : Fun K x qual st f fd) (S : FnScope N ps (defScope st))
    (hbody : ∀ (cdv : Value) (A : Around) (outer : List Env) (s : Shared) (H : Hp) (E : XK), Room k (A.deeper (envOfC qual (defScope st) s.heap.objs.size f cdv)) → SimSs (cxOf (L2.CX P w) P w K mg base N qual (defScope st) f cdv A outer s H E) (defBody st) m) :
    FnOk P w K mg base (L2.CX P w) (k + 1) f fd ps (spOf w K mg ps.length (bodyF N.length ps.length m)) := by
  refine Fu.okX S (fun vs H Q E h => h.1) (fun cdv A outer s H vs Q E hr h => ?_)
  obtain ⟨hl, W, ds, hp, ok, hrr, r, kk⟩ := h
  refine ⟨_, (hbody cdv A outer s H E hr).run (fun c d _ H => E c d H) (takes_of rfl rfl rfl rfl), ?_⟩
  refine body_sound ok hrr r ?_
  unfold bodyF at kk
  rw [if_pos (by rw [r.length, hl])] at kk
  exact kk
/-! ### calls of own defs -/
def mOwn (F : FN) (m : AM) : FM := fun τ h => (m τ h).bind F
section
variable {X : Cx} {e : Expr} {es : List Expr} {pos p : Pos} {x : Str} {m : AM} {k n : Nat} {F : FN}
theorem sim_own (C : Cal X.prog X.w X.K X.mg X.base k x n F) (hr : Room k X.A) (hg : Gl X x) (ha : SimA X (e :: es) m) (hn : (e :: es).length = n) (hlen : ∀ τ h ds h1, m τ h = .ok ds h1 → ds.length = n) (hdb : (x == ("__debug__" : Str)) = false)
    (he : starEach (e :: es) X.env = (false, eval e X.env) :: starEach es X.env) (hpl : (backTo pos (starEach es X.env)).any (·.1) = false) : SimF X (.Call (.Name x p) (e :: es) [] pos) (mOwn F m) := by
  obtain ⟨f, fd, ps, Fn, hm, hk, hb⟩ := C.ex
  refine ⟨fun Wx tk => PE.imp (pe_callS Fn hr hg hm hk hb (fun σ => passAt tk σ) (ha.run Wx tk) hdb he hpl) fun σ H Q ⟨W0, H0, W, τ, hp, s, g⟩ => ⟨W0, H0, W, τ, hp, s, Ko.step monoF g fun ds h1 vs W1 H1 hq e1 ok1 hr1 r1 g1 => ?_⟩⟩
  exact ⟨by rw [← RVs.length r1]; exact hlen _ _ _ _ hq, W1, ds, h1, ok1, hr1, r1, g1⟩
/-- a def held by a name of the frame -/
def mCallV (tbl : Str → Option FN) (i : Nat) (m : AM) : FM := fun τ h => match τ[i]? with
  | some (.pu (.glob g)) => match tbl g with
    | some F => (m τ h).bind F
    | none => .no
  | _ => .no
theorem sim_callV {tbl : Str → Option FN} {i : Nat} (C : ∀ g F, tbl g = some F → Cal X.prog X.w X.K X.mg X.base k g n F) (hr : Room k X.A) (hN : X.N[i]? = some x) (hv : Vis X.env.scope x) (ha : SimA X (e :: es) m) (hlen : ∀ τ h ds h1, m τ h = .ok ds h1 → ds.length = n)
    (hdb : (x == ("__debug__" : Str)) = false) (hcd : (x == ("__classdict__" : Str)) = false)
    (he : starEach (e :: es) X.env = (false, eval e X.env) :: starEach es X.env) (hpl : (backTo pos (starEach es X.env)).any (·.1) = false) : SimF X (.Call (.Name x p) (e :: es) [] pos) (mCallV tbl i m) := by
  refine ⟨fun Wx tk => ⟨fun pins s σ H Q I ⟨W0, H0, W, τ, hp, sr, g⟩ => ?_⟩⟩
  unfold mCallV at g
  split at g
  case h_2 => exact g.elim
  rename_i gn hq
  split at g
  case h_2 => exact g.elim
  rename_i F hF
  obtain ⟨v, hσ, hv2⟩ := sr.pu i _ hq
  obtain ⟨a, hm, rfl⟩ := RW.glob (.inl hv2)
  obtain ⟨f, fd, ps, Fn, hm2, hk, hb⟩ := (C gn F hF).ex
  have e1 : a = f := by
    rw [hm] at hm2
    cases hm2
    rfl
  subst e1
  have ta : Tg X (rA X.w X.K X.mg) m Wx σ H (fun vs H1 => spOf X.w X.K X.mg n F vs H1 Q (WE Wx σ)) := ⟨W0, H0, W, τ, hp, sr, Ko.step monoF g fun ds h1 vs W1 H1 hq e1 ok1 hr1 r1 g1 => ⟨by rw [← RVs.length r1]; exact hlen _ _ _ _ hq, W1, ds, h1, ok1, hr1, r1, g1⟩⟩
  refine wpAny_Call_Name_kw (thn ((pe_var (pos := p) hN hv hdb hcd).run pins s σ H (fun v H1 => v = .ref a ∧ H1 = H) I ⟨.ref a, hσ, rfl, rfl⟩) fun u s1 ⟨v, H1, I1, r1, q1⟩ => ?_)
  obtain ⟨rfl, rfl⟩ := q1
  cases r1
  refine PySem.W.callWith_K (h₀ := X.base) I.ok.mod.kin hk (thn ((ha.run Wx tk).run pos pins s1 σ _ _ I1 ta) fun us s2 ⟨vs, H2, I2, r, q⟩ => ⟨I2.kIn, ?_⟩) he hpl
  exact run_fnS Fn hr hb (passAt tk σ) I2 r q
end
/-! ### raise X() -/
structure ExcC (K : PySem.W.Frag) (mg : Str → Option Value) (x : Str) : Prop where
  ex : ∃ C, mg x = some (.ref C) ∧ PySem.W.excIn K C [.type "ValueError", .type "Exception", .type "BaseException", .type "object"] "ValueError.__new__" = true ∧ PySem.W.keepIn K (.ref C) = true ∧
    PySem.W.subIn K (.ref C) (.type "BaseException") = some true ∧ PySem.W.typeIn K (.ref C) = some (.type "type")
def mRaise0 (x : Str) : SM := fun τ h => .exc ⟨x, []⟩ τ h
theorem simS_raise0 {X : Cx} {x : Str} {p pos pos' : Pos} (hc : X.calm = true) (E : ExcC X.K X.mg x) (hg : Gl X x) (hdb : (x == ("__debug__" : Str)) = false) : SimS X (.Raise (some (.Call (.Name x p) [] [] pos)) none pos') (mRaise0 x) := by
  obtain ⟨C, gC, xC, kC, bC, tC⟩ := E.ex
  have mk : PMk X (.Call (.Name x p) [] [] pos) (fun _ H Q => Q (.ref C) none H) := by
    intro pins s σ H Q I h
    refine wpAny_Call_Name_kw (ld_glob I hg gC ?_ hdb)
    refine PySem.W.callWith_K0 I.kIn kC ?_
    show wpAny _ _ (call (.ref C) []) _ _ _
    obtain ⟨bm, N, nm, qn, bs, hdct, sn, sub, ab, col, dd, k0, k1, k2, k3, k5, mN, hC, hN, hni, T⟩ := exc_obj I.kIn xC
    exact wpAny_call_exc_subT PySem.F.excBase_ValueError T hC hN hni (fun h' e hm => mk_of I hm (raises_own bC tC) h (I.hok.gone hm.new)) (by show 0 ≤ sizeLine; exact Nat.zero_le _)
  exact ⟨fun Wx tk => PS.imp (ps_raise hc tk mk) fun D σ H ⟨W0, H0, W, τ, h, sr, g⟩ => g (.ref C) none σ W H (Gr.refl _ _) sr ⟨C, gC, rfl, .inl ⟨rfl, rfl⟩⟩⟩
/-! ### try -/
/-- is an exception of class c caught by 'except c'' -/
abbrev Subs := Str → Str → Option Bool
structure SubsOk (K : PySem.W.Frag) (mg : Str → Option Value) (sb : Subs) : Prop where
  ok : ∀ c c' b, sb c c' = some b → ∃ C C', mg c = some (.ref C) ∧ mg c' = some (.ref C') ∧ PySem.W.exmOne K (.ref C) (.ref C') = some b
theorem exm_mk {K : PySem.W.Frag} {S T : Addr} {b : Bool} (h1 : PySem.W.subIn K (.ref T) (.type "BaseException") = some true) (h2 : PySem.W.isClsIn K T = true) (h3 : PySem.W.typeIn K (.ref T) = some (.type "type")) (h4 : PySem.W.subIn K (.ref S) (.ref T) = some b) :
    PySem.W.exmOne K (.ref S) (.ref T) = some b := by
  have z1 : (PySem.W.subIn K (.ref T) (.type "BaseException") == some true) = true := by rw [h1]; rfl
  have z2 : ((PySem.W.clsIn K T).isSome && PySem.W.typeIn K (.ref T) == some (.type "type")) = true := by
    rw [show (PySem.W.clsIn K T).isSome = true from h2, h3]; rfl
  show (if (PySem.W.subIn K (.ref T) (.type "BaseException") == some true) = true then (if ((PySem.W.clsIn K T).isSome && PySem.W.typeIn K (.ref T) == some (.type "type")) = true then PySem.W.subIn K (.ref S) (.ref T) else none) else none) = some b
  rw [if_pos z1, if_pos z2]
  exact h4
def noExc : Sz → Sz
  | .exc _ _ _ => .no
  | r => r
/-- the clauses, one after another; none: a clause that is not come to -/
def handle (sb : Subs) (x : Xc) : List (Str × Option SM) → SM
  | [], τ, h => .exc x τ h
  | (c, s) :: r, τ, h => match sb x.c c with
    | some true => match s with
      | some m => noExc (m τ h)
      | none => .no
    | some false => handle sb x r τ h
    | none => .no
def mTry (sb : Subs) (m : SM) (hds : List (Str × Option SM)) : SM := fun τ h => match m τ h with
  | .exc x τ' h' => handle sb x hds τ' h'
  | r => r
/-- the clauses' rules: as HdsOk, where a clause may be one that is not come to -/
inductive HdsN (X : Cx) : List ExceptHandler → List (Value × Option (Addr → Value → Option Addr → TS)) → Prop
  | nil : HdsN X [] []
  | cons {x : Str} {c : Value} {ts : Addr → Value → Option Addr → TS} {b₀ : Stmt} {suite : List Stmt} {np pos' : Pos} {hds : List ExceptHandler} {l : List (Value × Option (Addr → Value → Option Addr → TS))} (hc : Names X x c)
      (hsu : ∀ (a : Addr) (oe : Obj) (cls : Value) (d : Option Addr) (pn : List (Addr × Obj)), Zc cls d oe → (∃ vs, oe.data = .fields vs) → PSs (X.suite a ((a, oe) :: pn)) (b₀ :: suite) (ts a cls d)) (r : HdsN X hds l) :
      HdsN X (.ExceptHandler (some (.Name x np)) none (b₀ :: suite) pos' :: hds) ((c, some ts) :: l)
  | skip {x : Str} {c : Value} {n : Option Str} {b₀ : Stmt} {suite : List Stmt} {np pos' : Pos} {hds : List ExceptHandler} {l : List (Value × Option (Addr → Value → Option Addr → TS))} (hc : Names X x c) (r : HdsN X hds l) :
      HdsN X (.ExceptHandler (some (.Name x np)) n (b₀ :: suite) pos' :: hds) ((c, none) :: l)
def wMore (K : PySem.W.Frag) (Wout : WX) (D : Ends) : List (Value × Option (Addr → Value → Option Addr → TS)) → WX
  | [] => Wout
  | (c, ts) :: r => fun cls d σ H => ∃ b, PySem.W.exmOne K cls c = some b ∧ (b = true → match ts with | some t => ∀ a, H a = none → t a cls d D σ H | none => False) ∧ (b = false → wMore K Wout D r cls d σ H)
section
variable {X : Cx} {body : List Stmt} {h₀ : ExceptHandler} {hds : List ExceptHandler} {l : List (Value × Option (Addr → Value → Option Addr → TS))} {pos : Pos} {tb : WX → TS} {Wout : WX}
theorem ps_try_more (hs : X.stack = X.env :: X.outer) (hf : X.env.frame = some X.env.locals) (tk : Takes X Wout)
    (hb : ∀ (W : WX) (pn : List (Addr × Obj)) (xe : Value → Shared → Prop), Takes (X.tr pn xe) W → PassesOwn (model X.prog X.w) X.A X.env xe → PSs (X.tr pn xe) body (tb W)) (hh : HdsN X (h₀ :: hds) l) :
    PS X (.Try body (h₀ :: hds) [] [] pos) (fun D σ H => tb (wMore X.K Wout D l) D σ H) := by
  refine ⟨fun pins s σ H D I hw => ?_⟩
  have okX := I.ok
  have fr0 : X.A.frames = some (X.env :: X.outer) := by rw [okX.frames, hs]
  refine wpAny_Try_except (wpAny_mono ((hb (wMore X.K Wout D l) (X.pn ++ pins) _ (fun u s' xx => ?_) PassesOwn.looking).run [] s σ H D (I.toTry _) hw) (fun f s1 q1 => ?_) fun e s1 he => he)
  · obtain ⟨a, B, sI, pins', σ1, H1, cls, d, rfl, J', nb, up1, sky, na, os, ag, w⟩ := xx
    have J : Inv X pins σ1 H1 sI := J'.ofTry okX
    have sky1 : Sky B (X.env :: X.outer) a (Zc cls d) X.env.locals s'.heap := by rw [← hs]; exact sky
    show wpAny (model X.prog X.w) X.A (noteFrame (.ref a) X.env) _ _ _
    refine Sky.land Zc.steady fr0 hf sky1 fun h3 fl up2 => ?_
    have J3 : Inv X pins σ1 H1 { s' with heap := h3 } := J.landed nb fl.1 (up1.trans up2) os ag
    obtain ⟨oe, vs3, ge, hz, gd⟩ := fl.there
    have off : a ∉ frs (X.env :: X.outer) := fun hm => by
      obtain ⟨_, o', e', hnf⟩ := fl.2.2.1.mem hm
      rw [ge] at e'; cases e'
      exact hnf _ gd
    have nL : a ≠ X.env.locals := fun z => off (List.mem_filterMap.mpr ⟨X.env, List.mem_cons_self, by rw [hf, z]⟩)
    have nF : a ∉ X.fs := fun hm => by
      obtain ⟨v, hv, q⟩ := List.mem_filterMap.mp hm
      exact off (List.mem_filterMap.mpr ⟨v, List.mem_cons_of_mem _ hv, q⟩)
    have S3 := J3.suite ge gd na nL nF
    have tst : ∀ {x : Str} {c : Value} {np : Pos} {Q : Value → Shared → Prop} {E : Value → Shared → Prop}, Names X x c → Q c { s' with heap := h3 } → wpAny (model X.prog X.w) (X.A.mark (some (.ref a))) (eval (.Name x np) X.env) Q E { s' with heap := h3 } := fun {x c np Q E} hc q => by
      obtain ⟨hg, hdbg, hm | ⟨hm, hv, hnn⟩⟩ := hc
      · exact ld_glob (X := X.suite a ((a, oe) :: (X.pn ++ pins))) S3 hg hm q hdbg
      · exact ld_blt (X := X.suite a ((a, oe) :: (X.pn ++ pins))) S3 hg hm hv q hnn hdbg
    have lk : PySem.W.Looks (model X.prog X.w) h3 (typeOf (.ref a)) cls := fun A Q E s k q => wpAny_typeOf_ref (k _ _ ge) (by rw [hz.1]; exact q)
    have walk : ∀ {hds' : List ExceptHandler} {l' : List (Value × Option (Addr → Value → Option Addr → TS))}, HdsN X hds' l' → wMore X.K Wout D l' cls d σ1 H1 → wpAny (model X.prog X.w) X.A (handleBy (.ref a) X.env hds') (SP X pins D) X.xe { s' with heap := h3 } := by
      intro hds' l' hk
      induction hk with
      | nil =>
        intro w
        refine wpAny_handleBy_nil ?_
        obtain ⟨k1, k2, k3, oe', vs, T, oT, ts', he, hz', hd, h1, hr⟩ := id fl
        unfold PySem.passOn
        refine wpAny_bind (wpAny_field he hd h1 ?_)
        rw [if_neg (show ¬ ((Value.ref T == Value.none) = true) from by simp)]
        have out : wpAny (model X.prog X.w) X.A (setFlight (.ref a) X.env.frame) (fun _ s4 => wpAny (model X.prog X.w) X.A (throw (.ref a) : Sem Flow) (SP X pins D) X.xe s4) X.xe { s' with heap := h3 } := by
          rw [hf]
          exact HandSPX.setFlight_upZ fl fun h4 hh4 up3 => wpAny_throw (tk _ _ ⟨a, B, sI, pins, σ1, H1, cls, d, rfl, J, nb, (up1.trans up2).trans up3, .inr (.inr (by rw [hs]; exact hh4)), na, os, ag, w⟩)
        first
          | exact wpAny_bind (wpAny_pure (wpAny_bind out))
          | exact wpAny_bind out
      | @cons x c ts b₀ suite np pos' hds2 l2 hc hsu r ih =>
        rintro ⟨b, hb1, hyes, hno⟩
        refine wpAny_handleBy_cons (codeAny_handlers_test ?_) (by intro q; cases q)
        refine tst hc ((PySem.W.exm_one (M := model X.prog X.w) J3.kIn lk hb1).here ?_)
        cases b with
        | false =>
          show wpAny _ X.A (handleBy (.ref a) X.env hds2) _ _ _
          exact ih (hno rfl)
        | true =>
          refine codeAny_handlers_suite (HandSPX.lands_againZ fl fun h4 fl4 up3 => ?_)
          have J4 : Inv X pins σ1 H1 { s' with heap := h4 } := J.landed nb fl4.1 ((up1.trans up2).trans up3) os ag
          obtain ⟨oe4, vs4, ge4, hz4, gd4⟩ := fl4.there
          have S4 := J4.suite ge4 gd4 na nL nF
          refine wpAny_mono ((hsu a oe4 cls d (X.pn ++ pins) hz4 ⟨_, gd4⟩).run [] _ _ H1 _ S4 (hyes rfl a na)) (fun f s6 q6 => ?_) fun _ _ z => False.elim z
          cases f with
          | next => obtain ⟨σ6, H6, S6, q6⟩ := q6; exact ⟨_, _, S6.unsuite okX, q6⟩
          | brk => obtain ⟨σ6, H6, S6, q6⟩ := q6; exact ⟨_, _, S6.unsuite okX, q6⟩
          | cont => obtain ⟨σ6, H6, S6, q6⟩ := q6; exact ⟨_, _, S6.unsuite okX, q6⟩
          | ret u => obtain ⟨v6, σ6, H6, S6, r6, q6⟩ := q6; exact ⟨_, _, _, S6.unsuite okX, r6, q6⟩
      | @skip x c n b₀ suite np pos' hds2 l2 hc r ih =>
        rintro ⟨b, hb1, hyes, hno⟩
        refine wpAny_handleBy_cons (codeAny_handlers_test ?_) (by intro q; cases q)
        refine tst hc ((PySem.W.exm_one (M := model X.prog X.w) J3.kIn lk hb1).here ?_)
        cases b with
        | false =>
          show wpAny _ X.A (handleBy (.ref a) X.env hds2) _ _ _
          exact ih (hno rfl)
        | true => exact (hyes rfl).elim
    exact walk hh w
  · cases f with
    | next => obtain ⟨σ1, H1, J', q⟩ := q1; exact wpAny_execs_nil ⟨σ1, H1, J'.ofTry okX, q⟩
    | brk => obtain ⟨σ1, H1, J', q⟩ := q1; exact ⟨σ1, H1, J'.ofTry okX, q⟩
    | cont => obtain ⟨σ1, H1, J', q⟩ := q1; exact ⟨σ1, H1, J'.ofTry okX, q⟩
    | ret u => obtain ⟨v, σ1, H1, J', r, q⟩ := q1; exact ⟨v, σ1, H1, J'.ofTry okX, r, q⟩
/-- the clauses by their meaning -/
inductive HdsM (X : Cx) : List ExceptHandler → List (Str × Option SM) → Prop
  | nil : HdsM X [] []
  | cons {x : Str} {m : SM} {b₀ : Stmt} {suite : List Stmt} {np pos' : Pos} {hds : List ExceptHandler} {l : List (Str × Option SM)} (hg : Gl X x) (hd : (x == ("__debug__" : Str)) = false) (hm : ∃ C, X.mg x = some (.ref C))
      (hsu : ∀ (a : Addr) (pn : List (Addr × Obj)), SimSs (X.suite a pn) (b₀ :: suite) m) (r : HdsM X hds l) : HdsM X (.ExceptHandler (some (.Name x np)) none (b₀ :: suite) pos' :: hds) ((x, some m) :: l)
  | skip {x : Str} {n : Option Str} {b₀ : Stmt} {suite : List Stmt} {np pos' : Pos} {hds : List ExceptHandler} {l : List (Str × Option SM)} (hg : Gl X x) (hd : (x == ("__debug__" : Str)) = false) (hm : ∃ C, X.mg x = some (.ref C)) (r : HdsM X hds l) :
      HdsM X (.ExceptHandler (some (.Name x np)) n (b₀ :: suite) pos' :: hds) ((x, none) :: l)
theorem noExc_ko {W0 : Wd} {H0 : Hp} {W : Wd} {H : Hp} {Wx : WX} {D : Ends} {r : Sz} (g : KoS X.w X.K X.mg W0 H0 W H Wx (noExc r) D) : KoS X.w X.K X.mg W0 H0 W H (fun _ _ _ _ => False) r D := by
  cases r with
  | exc _ _ _ => exact g.elim
  | _ => exact g
theorem hds_of {sb : Subs} (sub : SubsOk X.K X.mg sb) : ∀ {hds : List ExceptHandler} {l : List (Str × Option SM)}, HdsM X hds l → ∃ l', HdsN X hds l' ∧ ∀ (Wx : WX) (D : Ends) (x : Xc) (W0 : Wd) (H0 : Hp) (W : Wd) (H : Hp) (τ : Tu) (σ : L2.St) (h : EH) (cls : Value) (dd : Option Addr),
    SR X.w X.K X.mg W0 H0 W H τ σ h → ExcR X.w X.K X.mg W H x cls dd → KoS X.w X.K X.mg W0 H0 W H Wx (handle sb x l τ h) D → wMore X.K Wx D l' cls dd σ H
  | _, _, .nil => ⟨[], .nil, fun Wx D x W0 H0 W H τ σ h cls dd sr xr g => g cls dd σ W H (Gr.refl _ _) sr xr⟩
  | _, _, .cons (x := c) (m := m) hg hd hm hsu r => by
    obtain ⟨C, hC⟩ := hm
    obtain ⟨l', h1, h2⟩ := hds_of sub r
    refine ⟨(.ref C, some fun _ _ _ => TSm X m fun _ _ _ _ => False) :: l', .cons ⟨hg, hd, .inl hC⟩ (fun a oe cls d pn _ _ => (hsu a ((a, oe) :: pn)).run _ fun u s' x => ?_) h1, fun Wx D x W0 H0 W H τ σ h cls dd sr xr g => ?_⟩
    · obtain ⟨_, _, _, _, _, _, _, _, _, _, _, _, _, _, _, _, z⟩ := x
      exact z.elim
    · obtain ⟨S, hS, rfl, xr'⟩ := id xr
      unfold handle at g
      split at g
      · rename_i hb
        obtain ⟨C1, C2, q1, q2, q3⟩ := sub.ok _ _ _ hb
        rw [hS] at q1; cases q1
        rw [hC] at q2; cases q2
        exact ⟨true, q3, fun _ a _ => ⟨W0, H0, W, τ, h, sr, noExc_ko g⟩, fun z => nomatch z⟩
      · rename_i hb
        obtain ⟨C1, C2, q1, q2, q3⟩ := sub.ok _ _ _ hb
        rw [hS] at q1; cases q1
        rw [hC] at q2; cases q2
        exact ⟨false, q3, (fun z => nomatch z), fun _ => h2 Wx D x W0 H0 W H τ σ h _ dd sr xr g⟩
      · exact g.elim
  | _, _, .skip (x := c) hg hd hm r => by
    obtain ⟨C, hC⟩ := hm
    obtain ⟨l', h1, h2⟩ := hds_of sub r
    refine ⟨(.ref C, none) :: l', .skip ⟨hg, hd, .inl hC⟩ h1, fun Wx D x W0 H0 W H τ σ h cls dd sr xr g => ?_⟩
    obtain ⟨S, hS, rfl, xr'⟩ := id xr
    unfold handle at g
    split at g
    · exact g.elim
    · rename_i hb
      obtain ⟨C1, C2, q1, q2, q3⟩ := sub.ok _ _ _ hb
      rw [hS] at q1; cases q1
      rw [hC] at q2; cases q2
      exact ⟨false, q3, (fun z => nomatch z), fun _ => h2 Wx D x W0 H0 W H τ σ h _ dd sr xr g⟩
    · exact g.elim
theorem simS_try {sb : Subs} {m : SM} {l : List (Str × Option SM)} (sub : SubsOk X.K X.mg sb) (hs : X.stack = X.env :: X.outer) (hf : X.env.frame = some X.env.locals)
    (hb : ∀ (pn : List (Addr × Obj)) (xe : Value → Shared → Prop), PassesOwn (model X.prog X.w) X.A X.env xe → SimSs (X.tr pn xe) body m) (hh : HdsM X (h₀ :: hds) l) : SimS X (.Try body (h₀ :: hds) [] [] pos) (mTry sb m l) := by
  obtain ⟨l', h1, h2⟩ := hds_of sub hh
  refine ⟨fun Wx tk => PS.imp (ps_try_more (tb := fun W => TSm X m W) hs hf tk (fun W pn xe tk' po => (hb pn xe po).run W tk') h1) fun D σ H ⟨W0, H0, W, τ, h, sr, g⟩ => ⟨W0, H0, W, τ, h, sr, ?_⟩⟩
  unfold mTry at g
  cases q : m τ h with
  | exc x τ' h' =>
    rw [q] at g
    exact fun cls dd σ' W' H' gr sr' xr => h2 Wx D x W0 H0 W' H' τ' σ' h' cls dd sr' xr (KoS.at gr g)
  | nx _ _ => rw [q] at g; exact g
  | ret _ _ => rw [q] at g; exact g
  | brk _ _ => rw [q] at g; exact g
  | cnt _ _ => rw [q] at g; exact g
  | no => rw [q] at g; exact g
end
end Mp

set_option Elab.async false
set_option linter.all false
set_option maxRecDepth 100000
/-! Mp: short words; the law's entry. -/
namespace Mp
open PySem PySem.Spec L2
open PyProof.Rows hiding St

/-! ### fresh containers laid into the small heap -/
def Sl.ref (s : Sl) (h : EH) : R D := match s with
  | .em => .no
  | .pu d => .ok d h
  | .ow d => match eoOf d with
    | some o => .ok (.ref h.length) (h ++ [o])
    | none => .no
def rm (m : FM) : EM := fun τ h => (m τ h).bind Sl.ref
theorem Ko.ofR {w : World} {K : PySem.W.Frag} {mg : Str → Option Value} {W : Wd} {H : Hp} {Wx : XK} {r : R Sl} {Q : VK} (h : Ko w K mg (rS w K mg) W H Wx (r.bind Sl.ref) Q) : Ko w K mg (rF w K mg) W H Wx r Q := by
  cases r with
  | no => exact h
  | exc x h' => exact h
  | ok d h' =>
    intro v W' H' e ok hr q
    cases d with
    | em => exact q.elim
    | pu d => exact h v W' H' e ok hr q
    | ow d =>
      obtain ⟨a, rfl, hn, hm, hp, o⟩ := q
      have h' : Ko w K mg (rS w K mg) W H Wx (Sl.ref (.ow d) h') Q := h
      unfold Sl.ref at h'
      split at h'
      · exact h'.elim
      · rename_i heq; cases heq
      · rename_i d0 heq
        cases heq
        split at h'
        · rename_i u hu
          refine h' (.ref a) (W'.ref a) H' ⟨?_, e.pp, e.keep, e.newP, fun b z y => ?_⟩ (ref_ok ok hm hp o.there) (ref_hr ok hr o hu) (ref_rv hr)
          · obtain ⟨t, ht⟩ := e.mu
            exact ⟨t ++ [a], by show W'.μ ++ [a] = _; rw [ht, List.append_assoc]⟩
          · rcases List.mem_append.mp y with y | y
            · exact e.newM b z y
            · rw [List.mem_singleton.mp y] at z; exact absurd hn z
        · exact h'.elim
theorem SimF.r {X : Cx} {e : Expr} {m : FM} (h : SimF X e m) : SimE X e (rm m) := ⟨fun Wx tk => PE.imp (h.run Wx tk) fun σ H Q ⟨W0, H0, W, τ, hp, s, g⟩ => ⟨W0, H0, W, τ, hp, s, g.ofR⟩⟩

/-! ### short words -/
section
variable {X : Cx} {e a b c tg iter : Expr} {pos p : Pos} {x : Str}
theorem e_v (i : Nat) (hN : X.N[i]? = some x := by rfl) (hv : Vis X.env.scope x := by first | exact Or.inl rfl | exact Or.inr (Or.inl rfl) | exact Or.inr (Or.inr rfl)) (hd : (x == ("__debug__" : Str)) = false := by decide)
    (hcd : (x == ("__classdict__" : Str)) = false := by decide) : SimE X (.Name x pos) (mVar i) := sim_var hN hv hd hcd
theorem w_v (i : Nat) (hN : X.N[i]? = some x := by rfl) (hv : Vis X.env.scope x := by first | exact Or.inl rfl | exact Or.inr (Or.inl rfl) | exact Or.inr (Or.inr rfl)) (hd : (x == ("__debug__" : Str)) = false := by decide)
    (hcd : (x == ("__classdict__" : Str)) = false := by decide) : SimW X (.Name x pos) (mPeek i) := simw_peek hN hv hd hcd
theorem e_gi {i : Int} {t : Tok} (hm : X.mg x = some (.int i t)) (hg : Gl X x := by rfl) (hd : (x == ("__debug__" : Str)) = false := by decide) : SimE X (.Name x pos) (mLit (.int i)) := sim_lit (pe_glob (v := .int i) hg hm ⟨_, rfl⟩ hd) fun _ _ => .int i
theorem e_gs {i : Str} {t : Tok} (hm : X.mg x = some (.str i t)) (hg : Gl X x := by rfl) (hd : (x == ("__debug__" : Str)) = false := by decide) : SimE X (.Name x pos) (mLit (.str i)) := sim_lit (pe_glob (v := .str i) hg hm ⟨_, rfl⟩ hd) fun _ _ => .str i
theorem e_gf {f : Addr} (hm : X.mg x = some (.ref f)) (hg : Gl X x := by rfl) (hd : (x == ("__debug__" : Str)) = false := by decide) : SimE X (.Name x pos) (mLit (.glob x)) := sim_glob hg hm hd
theorem e_fn {P : Program} {w : World} {K : PySem.W.Frag} {mg : Str → Option Value} {base : Heap} {k n : Nat} {F : FN} (C : Cal P w K mg base k x n F) (hX : X.mg = mg) (hg : Gl X x := by rfl) (hd : (x == ("__debug__" : Str)) = false := by decide) : SimE X (.Name x pos) (mLit (.glob x)) := by
  obtain ⟨f, fd, ps, _, hm, _⟩ := C.ex
  exact sim_glob hg (by rw [hX]; exact hm) hd
theorem e_ty (n : String) (hm : X.mg x = none) (hv : bootBuiltins x = some (.type n) := by kernel_rfl) (hg : Gl X x := by rfl) (hn : x ≠ "__name__" := by decide) (hd : (x == ("__debug__" : Str)) = false := by decide) : SimE X (.Name x pos) (mLit (.ty n)) := sim_ty hg hm hv hn hd
theorem f_op {op : Operator} {g : EH → D → D → Option Sl} {ma mb : EM} (ho : OpR X (binaryOp op) (rOp X g)) (ha : SimW X a ma) (hb : SimW X b mb) : SimF X (.BinOp a op b pos) (mBin g ma mb) := sim_op ho ha hb
theorem f_cmp {op : CmpOp} {g : EH → D → D → Option Sl} {ma mb : EM} (ho : OpR X (compareOp op) (rOp X g)) (ha : SimW X a ma) (hb : SimW X b mb) (hm : behindInMarks op b = false := by first | exact nobehind _ (by decide) (by decide) | rfl) : SimF X (.Compare a [op] [b] pos) (mBin g ma mb) := sim_cmp ho ha hb hm
theorem t_cmp {op : CmpOp} {g : EH → D → D → Option Sl} {ma mb : EM} (ho : OpR X (compareOp op) (rOp X g)) (ha : SimW X a ma) (hb : SimW X b mb) (hm : behindInMarks op b = false := by first | exact nobehind _ (by decide) (by decide) | rfl) : SimT X (.Compare a [op] [b] pos) (mTst (mBin g ma mb)) := simT_cmp ho ha hb hm
theorem o_in (hu : X.A.units + 70 < cLine) : OpR X (compareOp .In) (rOp X (oIn false)) := op_oIn hu false
theorem o_ni (hu : X.A.units + 70 < cLine) : OpR X (compareOp .NotIn) (rOp X (oIn true)) := op_oIn hu true
theorem f_ix {ma mb : EM} (hu : X.A.units + 64 < cLine) (ha : SimW X a ma) (hb : SimW X b mb) (hs : PlainIx b := by intro _ _; rfl) : SimF X (.Subscript a b pos) (mBin oIx ma mb) := sim_ix hu ha hb hs
theorem t_p {m : EM} (h : SimW X e m) (he : PlainT X e := by intro _; rfl) : SimT X e (mTru m) := simT_plain h he
theorem e_ch {op op' : CmpOp} {f g : EH → D → D → Option Sl} {ma mb mc : EM} (ho : OpR X (compareOp op) (rOp X f)) (ho' : OpR X (compareOp op') (rOp X g)) (ha : SimE X a ma) (hb : SimE X b mb) (hc : SimE X c mc)
    (hm : lastMarks [op, op'] [b, c] = false := by first | decide | rfl) : SimE X (.Compare a [op, op'] [b, c] pos) (mChain f g ma mb mc) := sim_chain ho ho' ha hb hc hm
theorem a_c {es : List Expr} {m : EM} {ms : AM} (h : SimE X e m) (hs : SimA X es ms) (hst : starEach (e :: es) X.env = (false, eval e X.env) :: starEach es X.env := by rfl) : SimA X (e :: es) (mCons m ms) := simA_cons h hs hst
theorem aw_c {es : List Expr} {m : EM} {ms : AM} (h : SimW X e m) (hs : SimAW X es ms) (hst : starEach (e :: es) X.env = (false, eval e X.env) :: starEach es X.env := by rfl) : SimAW X (e :: es) (mCons m ms) := simAW_cons h hs hst
/-! calls -/
theorem f_b {id : String} {es : List Expr} {g : EH → List D → Option Sl} {m : AM} (hc : CallR X (.builtin id) (rCall X g)) (hm : X.mg x = none) (ha : SimAW X (e :: es) m) (hg : Gl X x := by rfl) (hv : bootBuiltins x = some (.builtin id) := by kernel_rfl) (hn : x ≠ "__name__" := by decide) (hdb : (x == ("__debug__" : Str)) = false := by decide)
    (he : starEach (e :: es) X.env = (false, eval e X.env) :: starEach es X.env := by rfl) (hpl : (backTo pos (starEach es X.env)).any (·.1) = false := by rfl) : SimF X (.Call (.Name x p) (e :: es) [] pos) (mCall g m) := sim_callB hc hg hm hv ha hn hdb he hpl
theorem f_t {T : String} {es : List Expr} {g : EH → List D → Option Sl} {m : AM} (hc : CallR X (.type T) (rCall X g)) (hm : X.mg x = none) (ha : SimAW X (e :: es) m) (hg : Gl X x := by rfl) (hv : bootBuiltins x = some (.type T) := by kernel_rfl) (hn : x ≠ "__name__" := by decide) (hdb : (x == ("__debug__" : Str)) = false := by decide)
    (he : starEach (e :: es) X.env = (false, eval e X.env) :: starEach es X.env := by rfl) (hpl : (backTo pos (starEach es X.env)).any (·.1) = false := by rfl) : SimF X (.Call (.Name x p) (e :: es) [] pos) (mCall g m) := sim_callT hc hg hm hv ha hn hdb he hpl
/-- an argument list's length -/
def Lng (m : AM) (n : Nat) : Prop := ∀ τ h ds h1, m τ h = .ok ds h1 → ds.length = n
theorem lng0 : Lng mNil 0 := fun _ _ _ _ h => by cases h; rfl
theorem lngS {m : EM} {ms : AM} {n : Nat} (h : Lng ms n) : Lng (mCons m ms) (n + 1) := fun τ hp ds h1 q => by
  obtain ⟨d, h2, _, q2⟩ := R.bind_ok q
  obtain ⟨ds2, h3, q3, q4⟩ := R.bind_ok q2
  cases q4
  rw [List.length_cons, h _ _ _ _ q3]
theorem f_own {es : List Expr} {m : AM} {k j n : Nat} {F : FN} (hr : Room k X.A) (C : Cal X.prog X.w X.K X.mg X.base j x n F) (ha : SimA X (e :: es) m) (hj : j ≤ k := by decide) (hl : Lng m n := by first | exact lngS lng0 | exact lngS (lngS lng0) | exact lngS (lngS (lngS lng0)) | exact lngS (lngS (lngS (lngS lng0))) | exact lngS (lngS (lngS (lngS (lngS lng0)))) | exact lngS (lngS (lngS (lngS (lngS (lngS lng0))))))
    (hg : Gl X x := by rfl) (hn : (e :: es).length = n := by rfl) (hdb : (x == ("__debug__" : Str)) = false := by decide)
    (he : starEach (e :: es) X.env = (false, eval e X.env) :: starEach es X.env := by rfl) (hpl : (backTo pos (starEach es X.env)).any (·.1) = false := by rfl) : SimF X (.Call (.Name x p) (e :: es) [] pos) (mOwn F m) := sim_own (C.mono hj) hr hg ha hn hl hdb he hpl
theorem f_cv (i : Nat) {es : List Expr} {m : AM} {k n : Nat} {tbl : Str → Option FN} (hr : Room k X.A) (C : ∀ g F, tbl g = some F → Cal X.prog X.w X.K X.mg X.base k g n F) (ha : SimA X (e :: es) m) (hl : Lng m n := by first | exact lngS lng0 | exact lngS (lngS lng0) | exact lngS (lngS (lngS lng0)) | exact lngS (lngS (lngS (lngS lng0))) | exact lngS (lngS (lngS (lngS (lngS lng0)))) | exact lngS (lngS (lngS (lngS (lngS (lngS lng0))))))
    (hN : X.N[i]? = some x := by rfl) (hv : Vis X.env.scope x := by first | exact Or.inl rfl | exact Or.inr (Or.inl rfl) | exact Or.inr (Or.inr rfl)) (hdb : (x == ("__debug__" : Str)) = false := by decide) (hcd : (x == ("__classdict__" : Str)) = false := by decide)
    (he : starEach (e :: es) X.env = (false, eval e X.env) :: starEach es X.env := by rfl) (hpl : (backTo pos (starEach es X.env)).any (·.1) = false := by rfl) : SimF X (.Call (.Name x p) (e :: es) [] pos) (mCallV tbl i m) := sim_callV C hr hN hv ha hl hdb hcd he hpl
theorem f_si {m : EM} {apos cpos : Pos} (hu : X.A.units + 64 < cLine) (hm : X.mg "sorted" = none) (h : SimW X e m) (hc : X.calm = true := by rfl) (hg : Gl X "sorted" := by rfl) (hbase : attributeBase e "items" X.env (eval e X.env) = eval e X.env := by rfl) (hline : (apos.endLine == cpos.line) = true := by rfl)
    (hst : starEach [.Call (.Attribute e "items" apos) [] [] cpos] X.env = (false, eval (.Call (.Attribute e "items" apos) [] [] cpos) X.env) :: starEach [] X.env := by rfl) (hpl : (backTo pos (starEach [] X.env)).any (·.1) = false := by rfl) :
    SimF X (.Call (.Name "sorted" p) [.Call (.Attribute e "items" apos) [] [] cpos] [] pos) (mSortIt m) := sim_sortIt hc hu hg hm h hbase hline hst hpl
/-! walks -/
theorem i_r1 {Af : AfR} {ma : AM} (hm : X.mg "range" = none) (ha : SimAW X [a] ma) (hg : Gl X "range" := by rfl) (hs : starEach [a] X.env = [(false, eval a X.env)] := by rfl) : SimI X Af tg (.Call (.Name "range" p) [a] [] pos) (mRng rngB1 ma) := simI_rng1 hg hm ha hs
theorem i_r2 {Af : AfR} {ma : AM} (hm : X.mg "range" = none) (ha : SimAW X [a, b] ma) (hg : Gl X "range" := by rfl) (hs : starEach [a, b] X.env = [(false, eval a X.env), (false, eval b X.env)] := by rfl) (hs2 : starEach [b] X.env = [(false, eval b X.env)] := by rfl) :
    SimI X Af tg (.Call (.Name "range" p) [a, b] [] pos) (mRng rngB2 ma) := simI_rng2 hg hm ha hs hs2
theorem i_zip {Af : AfR} {ma : AM} {tpos : Pos} {elts : List Expr} {kk : Nat} (af : AfOk Af) (hm : X.mg "zip" = none) (ha : SimAQ X Af [a, b] ma) (hg : Gl X "zip" := by rfl)
    (hs : starEach [a, b] X.env = (false, eval a X.env) :: starEach [b] X.env := by rfl) (hpl : (backTo pos (starEach [b] X.env)).any (·.1) = false := by rfl) : SimI X Af (.Tuple elts kk tpos) (.Call (.Name "zip" p) [a, b] [] pos) (mZip ma) := simI_zip af hg hm ha hs hpl
theorem i_en {Af : AfR} {ma : AM} {tpos : Pos} {elts : List Expr} {kk : Nat} (hm : X.mg "enumerate" = none) (ha : SimAQ X Af [a] ma) (hg : Gl X "enumerate" := by rfl) (hs : starEach [a] X.env = [(false, eval a X.env)] := by rfl) :
    SimI X Af (.Tuple elts kk tpos) (.Call (.Name "enumerate" p) [a] [] pos) (mEnum ma) := simI_enum hg hm ha hs
theorem i_it {Af : AfR} {m : EM} {elts : List Expr} {kk : Nat} {tpos apos cpos : Pos} (af : AfOk Af) (h : SimQ X Af e m) (hbase : attributeBase e "items" X.env (eval e X.env) = eval e X.env := by rfl) (hline : (apos.endLine == cpos.line) = true := by rfl) :
    SimI X Af (.Tuple elts kk tpos) (.Call (.Attribute e "items" apos) [] [] cpos) (mItems m) := simI_items af h hbase hline
/-! targets -/
theorem g_n (i : Nat) (nd : X.N.Nodup) (hi : X.N[i]? = some x := by rfl) (hx : Loc X.env.scope x := by first | exact Or.inl rfl | exact Or.inr rfl) (hf : X.fn x = true ∨ X.env.scope.names.lookup x = some .local := by first | exact Or.inl rfl | exact Or.inr rfl) : PG X (.Name x pos) (gOf X.K (.nm i)) :=
  pg_name nd hi hx hf
theorem g_t {es : List Expr} {k : Nat} {ts : Tts} (h : PGs X es (gsOf X.K ts)) (hc : X.calm = true := by rfl) (hn : (assignEach es X.env).length = ts.len := by rfl) (hst : (assignEach es X.env).findIdx? (·.1) = none := by rfl) : PG X (.Tuple es k pos) (gOf X.K (.tp ts)) := pg_tup hc h hn hst
theorem gs_0 : PGs X [] (gsOf X.K .nil) := pgs_nil
theorem gs_c {es : List Expr} {t : Tt} {ts : Tts} (h1 : PG X e (gOf X.K t)) (h2 : PGs X es (gsOf X.K ts)) (hs : (assignEach (e :: es) X.env).map (·.2) = assign e X.env :: (assignEach es X.env).map (·.2) := by rfl) : PGs X (e :: es) (gsOf X.K (.cons t ts)) := pgs_cons h1 h2 hs
/-! comprehensions -/
theorem f_lc (own : List (Str × Nat)) {elt : Expr} {ifs : List Expr} {scope : Scope} {mi : IM} {t : Tt} {mt : BM} {me : EM} (nd : X.N.Nodup) (hi : SimI X Ext tg iter mi)
    (hg : ∀ (s : Shared) (H : Hp) (C : Addr) (cl : List (Str × Addr)) (fp : List Addr), PG (X.blk s H scope (compEnvC scope cl C X.env) fp) tg (gOf X.K t))
    (ht : ∀ (s : Shared) (H : Hp) (C : Addr) (cl : List (Str × Addr)) (fp : List Addr), SimTs (X.blk s H scope (compEnvC scope cl C X.env) fp) ifs mt)
    (he : ∀ (s : Shared) (H : Hp) (C : Addr) (cl : List (Str × Addr)) (fp : List Addr), SimE (X.blk s H scope (compEnvC scope cl C X.env) fp) elt me)
    (hc : X.calm = true := by rfl) (ok : BlkOk X.N X.env.scope scope own := by exact blkOk_by (by kernel_rfl)) (hsl : ∀ i ∈ t.slots, i ∈ own.map (·.2) := by decide) (hs : ∀ x, foldedSetIterable iter X.env x = pure x := by intro _; rfl) :
    SimF X (.ListComp elt [⟨tg, iter, ifs, 0⟩] scope pos) (mLc mi t (own.map (·.2)) mt me) := simF_lc hc nd hi ok hsl hg ht he hs
/-- name = [..] on one line -/
theorem s_lc {i : Nat} (own : List (Str × Nat)) {y : Str} {py spos : Pos} {elt : Expr} {ifs : List Expr} {scope : Scope} {mi : IM} {t : Tt} {mt : BM} {me : EM} (nd : X.N.Nodup) (hi : SimI X Ext tg iter mi)
    (hg : ∀ (s : Shared) (H : Hp) (C : Addr) (cl : List (Str × Addr)) (fp : List Addr), PG (X.blk s H scope (compEnvC scope cl C X.env) fp) tg (gOf X.K t))
    (ht : ∀ (s : Shared) (H : Hp) (C : Addr) (cl : List (Str × Addr)) (fp : List Addr), SimTs (X.blk s H scope (compEnvC scope cl C X.env) fp) ifs mt)
    (he : ∀ (s : Shared) (H : Hp) (C : Addr) (cl : List (Str × Addr)) (fp : List Addr), SimE (X.blk s H scope (compEnvC scope cl C X.env) fp) elt me)
    (hsw : swapsWith (.ListComp elt [⟨tg, iter, ifs, 0⟩] scope pos) (some (.Name y py)) spos.line X.env = pure true) (hy : X.N[i]? = some y := by rfl) (hyl : X.env.scope.names.lookup y = some .local := by rfl)
    (hc : X.calm = true := by rfl) (ok : BlkOk X.N X.env.scope scope own := by exact blkOk_by (by kernel_rfl)) (hsl : ∀ i ∈ t.slots, i ∈ own.map (·.2) := by decide) (hs : ∀ x, foldedSetIterable iter X.env x = pure x := by intro _; rfl) :
    SimS X (.Assign [.Name y py] (.ListComp elt [⟨tg, iter, ifs, 0⟩] scope pos) spos) (mSet i (mLc mi t (own.map (·.2)) mt me)) :=
  ⟨fun Wx tk => PS.imp (ps_setLc hc nd hy hyl hsw (hi.run Wx tk) ok hg (fun s H C cl fp => (ht s H C cl fp).run _ takes_blk) (fun s H C cl fp => (he s H C cl fp).run _ takes_blk) hs) fun D σ H q => by
    obtain ⟨W0, H0, W, τ, h, sr, g⟩ := q
    refine lc_sound hsl ⟨W0, H0, W, τ, h, sr, KoS.thn sr g fun s h1 v W1 H1 _ e1 sr1 q k => k _ W1 H1 (Gr.refl _ _) (SR.put sr e1 sr1.ok sr1 q i)⟩⟩
/-! statements -/
theorem s_set (i : Nat) {m : FM} (nd : X.N.Nodup) (he : SimF X e m) (hi : X.N[i]? = some x := by rfl) (hx : Loc X.env.scope x := by first | exact Or.inl rfl | exact Or.inr rfl) (hs : swapsWith e (some (.Name x p)) pos.line X.env = pure false := by rfl)
    (hf : X.fn x = true ∨ X.env.scope.names.lookup x = some .local := by first | exact Or.inl rfl | exact Or.inr rfl) : SimS X (.Assign [.Name x p] e pos) (mSet i m) := simS_set nd hi hx he hs hf
theorem s_asg {t : Tt} {m : EM} (he : SimE X e m) (hg : PG X tg (gOf X.K t)) (hs : swapsWithSole [tg] e pos.line X.env = pure false := by rfl) (hw : swappedStores [tg] e X.env = pure none := by first | rfl | kernel_rfl) (h1 : (assignEach [tg] X.env).map (·.2) = [assign tg X.env] := by rfl) :
    SimS X (.Assign [tg] e pos) (mAsg t m) := simS_asg he hg hs hw h1
theorem s_par (i j : Nat) {x y : Str} {ma : AM} {px py pt : Pos} {kt k2 pt2} (nd : X.N.Nodup) (ha : SimA X [a, b] ma) (hw : swappedStores [.Tuple [.Name x px, .Name y py] kt pt] (.Tuple [a, b] k2 pt2) X.env = pure (some [x, y]) := by first | rfl | kernel_rfl)
    (hi : X.N[i]? = some x := by rfl) (hj : X.N[j]? = some y := by rfl) (hij : i ≠ j := by decide) (hx : X.env.scope.names.lookup x = some .local := by rfl) (hy : X.env.scope.names.lookup y = some .local := by rfl) (hc : X.calm = true := by rfl)
    (hs : swapsWithSole [.Tuple [.Name x px, .Name y py] kt pt] (.Tuple [a, b] k2 pt2) pos.line X.env = pure false := by rfl) :
    SimS X (.Assign [.Tuple [.Name x px, .Name y py] kt pt] (.Tuple [a, b] k2 pt2) pos) (mPar i j ma) := simS_par hc nd hi hj hij hx hy ha hw hs
def mPar3 (i j l : Nat) (ma : AM) : SM := fun τ h => (ma τ h).thn τ fun ds h1 => match ds with
  | [d, e, f] => .nx (((τ.set i (.pu d)).set j (.pu e)).set l (.pu f)) h1
  | _ => .no
theorem s_par3 (i j l : Nat) {x y z : Str} {ma : AM} {px py pz pt : Pos} {kt k2 pt2} (nd : X.N.Nodup) (ha : SimA X [a, b, c] ma) (hw : swappedStores [.Tuple [.Name x px, .Name y py, .Name z pz] kt pt] (.Tuple [a, b, c] k2 pt2) X.env = pure (some [x, y, z]) := by first | rfl | kernel_rfl)
    (hi : X.N[i]? = some x := by rfl) (hj : X.N[j]? = some y := by rfl) (hl : X.N[l]? = some z := by rfl) (hij : i ≠ j := by decide) (hil : i ≠ l := by decide) (hjl : j ≠ l := by decide)
    (hx : X.env.scope.names.lookup x = some .local := by rfl) (hy : X.env.scope.names.lookup y = some .local := by rfl) (hz : X.env.scope.names.lookup z = some .local := by rfl) (hc : X.calm = true := by rfl)
    (hs : swapsWithSole [.Tuple [.Name x px, .Name y py, .Name z pz] kt pt] (.Tuple [a, b, c] k2 pt2) pos.line X.env = pure false := by rfl) :
    SimS X (.Assign [.Tuple [.Name x px, .Name y py, .Name z pz] kt pt] (.Tuple [a, b, c] k2 pt2) pos) (mPar3 i j l ma) :=
  ⟨fun Wx tk => PS.imp (ps_par3 hc nd hi hj hl hij hil hjl hx hy hz (ha.run Wx tk) hw hs) fun D σ H ⟨W0, H0, W, τ, h, sr, g⟩ => ⟨W0, H0, W, τ, h, sr, KoS.thn sr g fun ds h1 vs W1 H1 _ e1 sr1 q k => by
    split at k
    · cases q with
      | cons q1 q2 =>
        cases q2 with
        | cons q2 q3 =>
          cases q3 with
          | cons q3 q4 =>
            cases q4
            exact ⟨_, _, _, rfl, k _ W1 H1 (Gr.refl _ _) (((sr1.set i q1).set j q2).set l q3)⟩
    · exact k.elim⟩⟩
theorem s_sub (i : Nat) {k value : Expr} {p2 : Pos} {mk mv : EM} (hu : X.A.units + 64 < cLine) (hk : SimW X k mk) (he : SimE X value mv) (hN : X.N[i]? = some x := by rfl) (hv : Vis X.env.scope x := by first | exact Or.inl rfl | exact Or.inr (Or.inl rfl) | exact Or.inr (Or.inr rfl)) (hd : (x == ("__debug__" : Str)) = false := by decide) (hcd : (x == ("__classdict__" : Str)) = false := by decide)
    (hs : swapsWithSole [.Subscript (.Name x p) k p2] value pos.line X.env = pure false := by rfl) (hw : swappedStores [.Subscript (.Name x p) k p2] value X.env = pure none := by rfl)
    (h1 : (assignEach [.Subscript (.Name x p) k p2] X.env).map (·.2) = [assign (.Subscript (.Name x p) k p2) X.env] := by rfl)
    (ha : ∀ v, assign (.Subscript (.Name x p) k p2) X.env v = (do
      let ov ← holding [v] (eval (.Name x p) X.env)
      let iv ← holding [v, ov] (eval k X.env)
      standAt p2
      holding [v, ov, iv] (setItem ov iv v)
      release [v, ov, iv] []) := by intro _; rfl) : SimS X (.Assign [.Subscript (.Name x p) k p2] value pos) (mSubV i mk mv) := simS_subV hu hN hv hd hcd hk he hs hw h1 ha
theorem s_x {m : EM} (he : SimW X e m) (hs : swapsWith e none pos.line X.env = pure false := by rfl) : SimS X (.Expr e pos) (mDrop m) := simS_drop he hs
theorem s_rv (i : Nat) (hN : X.N[i]? = some x := by rfl) (hv : Vis X.env.scope x := by first | exact Or.inl rfl | exact Or.inr (Or.inl rfl) | exact Or.inr (Or.inr rfl)) (hd : (x == ("__debug__" : Str)) = false := by decide) (hcd : (x == ("__classdict__" : Str)) = false := by decide) : SimS X (.Return (some (.Name x p)) pos) (mRetV i) := simS_retV hN hv hd hcd
theorem s_for {t : Tt} {mi : IM} {bs : List Stmt} {m : SM} (hp : PassesOwn (model X.prog X.w) X.A X.env X.xe) (hi : SimI X Gr tg iter mi) (hg : PG X tg (gOf X.K t)) (hm : SimSs X bs m) (hc : X.calm = true := by rfl) (hs : ∀ x, foldedSetIterable iter X.env x = pure x := by intro _; rfl) :
    SimS X (.For tg iter bs [] pos) (mFor mi t m) := simS_for hp hc hi hg hm hs
theorem s_rs (E : ExcC X.K X.mg x) {pos' : Pos} (hc : X.calm = true := by rfl) (hg : Gl X x := by rfl) (hdb : (x == ("__debug__" : Str)) = false := by decide) : SimS X (.Raise (some (.Call (.Name x p) [] [] pos)) none pos') (mRaise0 x) := simS_raise0 hc E hg hdb
theorem h_c {m : SM} {b₀ : Stmt} {suite : List Stmt} {np pos' : Pos} {hds : List ExceptHandler} {l : List (Str × Option SM)} (hm : ∃ C, X.mg x = some (.ref C)) (hsu : ∀ (a : Addr) (pn : List (Addr × Obj)), SimSs (X.suite a pn) (b₀ :: suite) m) (r : HdsM X hds l) (hg : Gl X x := by rfl) (hd : (x == ("__debug__" : Str)) = false := by decide) :
    HdsM X (.ExceptHandler (some (.Name x np)) none (b₀ :: suite) pos' :: hds) ((x, some m) :: l) := .cons hg hd hm hsu r
theorem h_s {n : Option Str} {b₀ : Stmt} {suite : List Stmt} {np pos' : Pos} {hds : List ExceptHandler} {l : List (Str × Option SM)} (hm : ∃ C, X.mg x = some (.ref C)) (r : HdsM X hds l) (hg : Gl X x := by rfl) (hd : (x == ("__debug__" : Str)) = false := by decide) :
    HdsM X (.ExceptHandler (some (.Name x np)) n (b₀ :: suite) pos' :: hds) ((x, none) :: l) := .skip hg hd hm r
theorem s_try {sb : Subs} {m : SM} {l : List (Str × Option SM)} {body : List Stmt} {h₀ : ExceptHandler} {hds : List ExceptHandler} (sub : SubsOk X.K X.mg sb) (hb : ∀ (pn : List (Addr × Obj)) (xe : Value → Shared → Prop), PassesOwn (model X.prog X.w) X.A X.env xe → SimSs (X.tr pn xe) body m) (hh : HdsM X (h₀ :: hds) l)
    (hs : X.stack = X.env :: X.outer := by rfl) (hf : X.env.frame = some X.env.locals := by rfl) : SimS X (.Try body (h₀ :: hds) [] [] pos) (mTry sb m l) := simS_try sub hs hf hb hh
end
/-! ### defs as values -/
def tblOf : List (Str × FN) → Str → Option FN
  | [], _ => none
  | (x, F) :: r, g => if g = x then some F else tblOf r g
section
variable {P : Program} {w : World} {K : PySem.W.Frag} {mg : Str → Option Value} {base : Heap} {k n : Nat}
theorem tbl0 : ∀ g F, tblOf [] g = some F → Cal P w K mg base k g n F := fun g F h => by cases h
theorem tblS {x : Str} {F : FN} {j : Nat} {r : List (Str × FN)} (C : Cal P w K mg base j x n F) (h : ∀ g F, tblOf r g = some F → Cal P w K mg base k g n F) (hj : j ≤ k := by decide) : ∀ g F', tblOf ((x, F) :: r) g = some F' → Cal P w K mg base k g n F' := fun g F' q => by
  unfold tblOf at q
  split at q
  · rename_i e
    cases q
    subst e
    exact C.mono hj
  · exact h g F' q
end
/-! ### which exception a clause takes -/
def subsOf : List (Str × Str × Bool) → Subs
  | [], _, _ => none
  | (x, y, b) :: r, c, c' => if c = x ∧ c' = y then some b else subsOf r c c'
theorem sub0 {K : PySem.W.Frag} {mg : Str → Option Value} : SubsOk K mg (subsOf []) := ⟨fun _ _ _ h => by cases h⟩
theorem subS {K : PySem.W.Frag} {mg : Str → Option Value} {x y : Str} {b : Bool} {r : List (Str × Str × Bool)} {C C' : Addr} (h1 : mg x = some (.ref C)) (h2 : mg y = some (.ref C')) (h3 : PySem.W.exmOne K (.ref C) (.ref C') = some b) (h : SubsOk K mg (subsOf r)) : SubsOk K mg (subsOf ((x, y, b) :: r)) := ⟨fun c c' d q => by
  unfold subsOf at q
  split at q
  · rename_i e
    cases q
    obtain ⟨rfl, rfl⟩ := e
    exact ⟨C, C', h1, h2, h3⟩
  · exact h.ok c c' d q⟩
theorem Room.units70 {k : Nat} {A : Around} (r : Room k A) : A.units + 70 < cLine := by
  have := r.un
  omega
/-! ### the law's entry -/
def spLaw (K : PySem.W.Frag) (n : Nat) : Sp := fun vs H Q _ => ∃ (a : Addr) (ns : List Int), vs = [.ref a] ∧ Only H ∧ SqL K H a (ns.map V.int) ∧ ns.length ≤ n ∧ ∀ H', Q (.bl true) H'
theorem law_in {w : World} {K : PySem.W.Frag} {mg : Str → Option Value} {F : FN} {n : Nat} (e : ∀ ns : List Int, ns.length ≤ n → ∃ h', F [.fzl (ns.map .int)] [] = .ok (.pu (.bl true)) h') : ∀ vs H Q E, spLaw K n vs H Q E → spOf w K mg 1 F vs H Q E := by
  rintro vs H Q E ⟨a, ns, rfl, hO, hS, hl, q⟩
  obtain ⟨h', e⟩ := e ns hl
  have rvs : ∀ {W : Wd} (ns : List Int), RVs w K mg W H (ns.map D.int) (ns.map V.int) := fun {W} ns => by
    induction ns with
    | nil => exact .nil
    | cons n r ih => exact .cons (.int n) ih
  have fin : ∀ {W : Wd}, WOk W H → HR w K mg W H [] → RV w K mg W H (.fzl (ns.map .int)) (.ref a) → spOf w K mg 1 F [.ref a] H Q E := fun {W} ok hr r => by
    refine ⟨rfl, W, [.fzl (ns.map .int)], [], ok, hr, .cons r .nil, ?_⟩
    rw [e]
    intro v W' H' _ _ _ z
    rw [RW.bl (.inl z)]
    exact q H'
  have hr0 : ∀ {W : Wd}, W.μ = [] → HR w K mg W H [] := fun {W} e => ⟨by rw [e]; rfl, fun n o b h => by simp at h⟩
  rcases hS with hS | hS
  · have ha : H a ≠ none := by
      rcases hS with h | ⟨o, h⟩ <;> rw [h] <;> exact fun z => nomatch z
    exact fin (W := ⟨[], fun b => b = a⟩) ⟨fun b hb => by rw [show b = a from hb]; exact ha, fun b hb => by simp at hb, .nil⟩ (hr0 rfl) (.fzl (.inl ⟨rfl, hS⟩) (rvs ns))
  · exact fin (W := ⟨[], fun _ => False⟩) ⟨fun b hb => hb.elim, fun b hb => by simp at hb, .nil⟩ (hr0 rfl) (.fzl (.inr hS) (rvs ns))
theorem cx_no {P : Program} {w : World} {H : Hp} {s : Shared} {e : Value} {s' : Shared} (h : L2.CX P w [] H s (fun _ _ _ => False) e s') : False := by
  obtain ⟨_, _, _, _, _, _, _, _, _, _, _, _, z⟩ := h
  exact z
end Mp

set_option Elab.async false
set_option linter.all false
set_option maxRecDepth 100000
/-! Mp: running the meanings. -/
namespace Mp
open PySem PySem.Spec L2
open PyProof.Rows hiding St

section
variable {α β : Type} {a : α} {h h' : EH} {τ : Tu} {x : Xc} {d e f : D} {s : Sl} {b : Bool} {i j : Int}
@[simp] theorem v_bok (k : α → EH → R β) : (R.ok a h).bind k = k a h := rfl
@[simp] theorem v_bexc (k : α → EH → R β) : (R.exc x h : R α).bind k = .exc x h := rfl
@[simp] theorem v_bno (k : α → EH → R β) : (R.no : R α).bind k = .no := rfl
@[simp] theorem v_tok (k : α → EH → Sz) : (R.ok a h).thn τ k = k a h := rfl
@[simp] theorem v_texc (k : α → EH → Sz) : (R.exc x h : R α).thn τ k = .exc x τ h := rfl
@[simp] theorem v_tno (k : α → EH → Sz) : (R.no : R α).thn τ k = .no := rfl
@[simp] theorem v_snx (k : SM) : (Sz.nx τ h).bind k = k τ h := rfl
@[simp] theorem v_sret (k : SM) : (Sz.ret s h).bind k = .ret s h := rfl
@[simp] theorem v_sexc (k : SM) : (Sz.exc x τ h).bind k = .exc x τ h := rfl
@[simp] theorem v_sbrk (k : SM) : (Sz.brk τ h).bind k = .brk τ h := rfl
@[simp] theorem v_scnt (k : SM) : (Sz.cnt τ h).bind k = .cnt τ h := rfl
@[simp] theorem v_sno (k : SM) : Sz.no.bind k = .no := rfl
@[simp] theorem v_eret : bodyEnd (.ret s h) = .ok s h := rfl
@[simp] theorem v_enx : bodyEnd (.nx τ h) = .ok (.pu .non) h := rfl
@[simp] theorem v_eexc : bodyEnd (.exc x τ h) = .exc x h := rfl
@[simp] theorem v_lsome (h : EH) : lift (some a) h = .ok a h := rfl
@[simp] theorem v_valp : Sl.val (.pu d) h = .ok d h := rfl
@[simp] theorem v_valo : Sl.val (.ow d) h = .ok d h := rfl
@[simp] theorem v_lit : mLit d τ h = .ok d h := rfl
@[simp] theorem v_seq (m n : SM) : mSeq m n τ h = (m τ h).bind n := rfl
@[simp] theorem v_next : mNext τ h = .nx τ h := rfl
@[simp] theorem v_fm (m : FM) : fm m τ h = (m τ h).bind Sl.val := rfl
@[simp] theorem v_pm (m : EM) : pm m τ h = (m τ h).bind fun d h1 => .ok (.pu d) h1 := rfl
@[simp] theorem v_bin (g : EH → D → D → Option Sl) (ma mb : EM) : mBin g ma mb τ h = (ma τ h).bind fun x h1 => (mb τ h1).bind fun y h2 => lift (g h2 x y) h2 := rfl
@[simp] theorem v_nil : mNil τ h = .ok [] h := rfl
@[simp] theorem v_cons (m : EM) (ms : AM) : mCons m ms τ h = (m τ h).bind fun d h1 => (ms τ h1).bind fun ds h2 => .ok (d :: ds) h2 := rfl
@[simp] theorem v_call (g : EH → List D → Option Sl) (m : AM) : mCall g m τ h = (m τ h).bind fun ds h1 => lift (g h1 ds) h1 := rfl
@[simp] theorem v_own (F : FN) (m : AM) : mOwn F m τ h = (m τ h).bind F := rfl
@[simp] theorem v_ret (m : FM) : mRet m τ h = (m τ h).thn τ fun s h1 => .ret s h1 := rfl
@[simp] theorem v_set (k : Nat) (m : FM) : mSet k m τ h = (m τ h).thn τ fun s h1 => .nx (τ.set k s) h1 := rfl
@[simp] theorem v_drop (m : EM) : mDrop m τ h = (m τ h).thn τ fun _ h1 => .nx τ h1 := rfl
@[simp] theorem v_if (c : BM) (m n : SM) : mIf c m n τ h = (c τ h).thn τ fun b h1 => if b = true then m τ h1 else n τ h1 := rfl
@[simp] theorem v_not (c : BM) : mNotT c τ h = (c τ h).bind fun b h1 => .ok (!b) h1 := rfl
@[simp] theorem v_or (m n : BM) : mOrT m n τ h = (m τ h).bind fun b h1 => if b = true then .ok true h1 else n τ h1 := rfl
@[simp] theorem v_and (m n : BM) : mAndT m n τ h = (m τ h).bind fun b h1 => if b = true then n τ h1 else .ok false h1 := rfl
@[simp] theorem v_tru (m : EM) : mTru m τ h = (m τ h).bind fun d h1 => lift (truB (der h1 d)) h1 := rfl
@[simp] theorem v_yes : mYes τ h = .ok true h := rfl
@[simp] theorem v_for (mi : IM) (t : Tt) (m : SM) : mFor mi t m τ h = (mi τ h).thn τ fun s h1 => forGo s.1 t m s.2 τ h1 := rfl
@[simp] theorem v_lc (mi : IM) (t : Tt) (vs : List Nat) (mt : BM) (me : EM) : mLc mi t vs mt me τ h = (mi τ h).bind fun s h1 => lcEnd (lcGo s.1 (lcB t (wipeT τ vs) mt me) s.2 h1) := rfl
@[simp] theorem v_ifE (c : BM) (m n : EM) : mIfE c m n τ h = (c τ h).bind fun b h1 => if b = true then m τ h1 else n τ h1 := rfl
@[simp] theorem v_raise (c : Str) : mRaise0 c τ h = .exc ⟨c, []⟩ τ h := rfl
@[simp] theorem v_peek (k : Nat) : mPeek k τ h = match τ[k]? with
  | some (.pu d) => .ok d h
  | some (.ow d) => .ok d h
  | _ => .no := rfl
@[simp] theorem v_var (k : Nat) : mVar k τ h = match τ[k]? with
  | some (.pu d) => .ok d h
  | _ => .no := rfl
@[simp] theorem v_retV (k : Nat) : mRetV k τ h = match τ[k]? with
  | some (.pu d) => .ret (.pu d) h
  | some (.ow d) => .ret (.ow d) h
  | _ => .no := rfl
@[simp] theorem v_par (k l : Nat) (ma : AM) : mPar k l ma τ h = (ma τ h).thn τ fun ds h1 => match ds with
  | [d, e] => .nx ((τ.set k (.pu d)).set l (.pu e)) h1
  | _ => .no := rfl
@[simp] theorem v_par3 (k l m : Nat) (ma : AM) : mPar3 k l m ma τ h = (ma τ h).thn τ fun ds h1 => match ds with
  | [d, e, f] => .nx (((τ.set k (.pu d)).set l (.pu e)).set m (.pu f)) h1
  | _ => .no := rfl
@[simp] theorem v_asg (t : Tt) (m : EM) : mAsg t m τ h = (m τ h).thn τ fun d h1 => match fOf t d τ with
  | some τ1 => .nx τ1 h1
  | none => .no := rfl
@[simp] theorem v_tst (m : FM) : mTst m τ h = (m τ h).bind fun d h1 => match d with
  | .pu (.bl b) => .ok b h1
  | _ => .no := rfl
@[simp] theorem v_andV (m n : EM) : mAndV m n τ h = (m τ h).bind fun d h1 => match d with
  | .bl true => n τ h1
  | .bl false => .ok (.bl false) h1
  | _ => .no := rfl
@[simp] theorem v_orV (m n : EM) : mOrV m n τ h = (m τ h).bind fun d h1 => match d with
  | .bl false => n τ h1
  | .bl true => .ok (.bl true) h1
  | _ => .no := rfl
@[simp] theorem v_notV (m : EM) : mNotV m τ h = (m τ h).bind fun d h1 => match d with
  | .bl b => .ok (.bl (!b)) h1
  | _ => .no := rfl
@[simp] theorem v_tup (ms : AM) : mTup ms τ h = (ms τ h).bind fun ds h1 => if ds.length ≤ 1000 then .ok (.tup ds) h1 else .no := rfl
@[simp] theorem v_lst (ms : AM) : mLst ms τ h = (ms τ h).bind fun ds h1 => if ds.length ≤ 1000 then .ok (.ow (.lst ds)) h1 else .no := rfl
@[simp] theorem v_dct : mDct0 τ h = .ok (.ow (.dct [])) h := rfl
def rngK (o : Option (List D)) (h : EH) : R Src := match o with
  | some r => .ok ((fun _ => true : EH → Bool), r) h
  | none => .no
@[simp] theorem rngK_s (r : List D) : rngK (some r) h = .ok ((fun _ => true : EH → Bool), r) h := rfl
def rngR (g : List D → Option (List D)) (r : R (List D)) : R Src := match r with
  | .ok ds h => rngK (g ds) h
  | .exc x h => .exc x h
  | .no => .no
theorem rngR_ok' (g : List D → Option (List D)) (ds : List D) (o : Option (List D)) (e : g ds = o) : rngR g (.ok ds h) = rngK o h := by rw [← e]; rfl
@[simp] theorem rngR_ok (g : List D → Option (List D)) (ds : List D) : rngR g (.ok ds h) = rngK (g ds) h := rngR_ok' g ds _ (Eq.refl _)
@[simp] theorem v_rng (g : List D → Option (List D)) (m : AM) : mRng g m τ h = rngR g (m τ h) := by
  unfold mRng
  cases m τ h with
  | ok ds h1 =>
    show (match g ds with
      | some r => (.ok ((fun _ => true : EH → Bool), r) h1 : R Src)
      | none => .no) = rngK (g ds) h1
    cases g ds <;> rfl
  | exc _ _ => rfl
  | no => rfl
@[simp] theorem v_walk (m : EM) : mWalk m τ h = (m τ h).bind fun src h1 => match walkB src (der h1 src) with
  | some ds => .ok (isAs src (der h1 src), ds) h1
  | none => .no := rfl
@[simp] theorem v_share (k : Nat) (m : SM) : mShare k m τ h = m (share k τ) h := rfl
@[simp] theorem v_rm (m : FM) : rm m τ h = (m τ h).bind Sl.ref := rfl
@[simp] theorem v_ne (r : List (Str × Option SM)) (sb : Subs) (m : SM) : mTry sb m r τ h = match m τ h with
  | .exc x τ' h' => handle sb x r τ' h'
  | r => r := rfl
/-! reading through -/
@[simp] theorem der_int : der h (.int i) = .int i := rfl
@[simp] theorem der_bl : der h (.bl b) = .bl b := rfl
@[simp] theorem der_non' : der h .non = .non := rfl
@[simp] theorem der_str {z : Str} : der h (.str z) = .str z := rfl
@[simp] theorem der_ty {z : String} : der h (.ty z) = .ty z := rfl
@[simp] theorem der_glob {z : Str} : der h (.glob z) = .glob z := rfl
@[simp] theorem der_tup {ds : List D} : der h (.tup ds) = .tup ds := rfl
@[simp] theorem der_lst {ds : List D} : der h (.lst ds) = .lst ds := rfl
@[simp] theorem der_dc {ds : List (D × D)} : der h (.dct ds) = .dct ds := rfl
@[simp] theorem der_fzl {ds : List D} : der h (.fzl ds) = .lst ds := rfl
theorem isAs_self {d e : D} {h : EH} (hd : der h d = e) : isAs d e h = true := by unfold isAs; rw [hd]; exact decide_eq_true rfl
@[simp] theorem isAs_tup {ds : List D} : isAs (.tup ds) (.tup ds) h = true := isAs_self rfl
@[simp] theorem isAs_lst {ds : List D} : isAs (.lst ds) (.lst ds) h = true := isAs_self rfl
@[simp] theorem isAs_dct {ds : List (D × D)} : isAs (.dct ds) (.dct ds) h = true := isAs_self rfl
@[simp] theorem isAs_fzl {ds : List D} : isAs (.fzl ds) (.lst ds) h = true := isAs_self rfl
@[simp] theorem walk_tup {ds : List D} : walkB d (.tup ds) = some ds := rfl
@[simp] theorem walk_lst {ds : List D} : walkB d (.lst ds) = some ds := rfl
@[simp] theorem walk_dct {ds kvs : List (D × D)} : walkB (.dct ds) (.dct kvs) = some (kvs.map (·.1)) := rfl
/-! targets -/
@[simp] theorem fOf_nm {k : Nat} : fOf (.nm k) d τ = some (τ.set k (.pu d)) := by simp [fOf]
@[simp] theorem fOf_tp {ts : Tts} {ds : List D} : fOf (.tp ts) (.tup ds) τ = fsOf ts ds τ := by simp [fOf]
@[simp] theorem fsOf_nil : fsOf .nil [] τ = some τ := by simp [fsOf]
@[simp] theorem fsOf_cons {t : Tt} {ts : Tts} {ds : List D} : fsOf (.cons t ts) (d :: ds) τ = (fOf t d τ).bind fun τ1 => fsOf ts ds τ1 := by simp [fsOf]
/-! built-ins -/
theorem okd_int {n : Nat} : D.okd n (.int i) = true := by cases n <;> rfl
theorem okd_bl {n : Nat} : D.okd n (.bl b) = true := by cases n <;> rfl
theorem okd_non {n : Nat} : D.okd n .non = true := by cases n <;> rfl
theorem ord_int : ordOk (.int i) (.int j) = true := by simp [ordOk, okd_int, D.pd, PySem.W.alike, D.beq]
@[simp] theorem add_int : oAdd h (.int i) (.int j) = some (.pu (.int (i + j))) := rfl
@[simp] theorem sub_int : oSub h (.int i) (.int j) = some (.pu (.int (i - j))) := rfl
@[simp] theorem lt_int : oLt h (.int i) (.int j) = some (.pu (.bl (decide (i < j)))) := by simp [oLt, ord_int, D.pd, PySem.W.dataLt_int]
@[simp] theorem le_int : oLe h (.int i) (.int j) = some (.pu (.bl (decide (i ≤ j)))) := by simp [oLe, ord_int, D.pd, PySem.W.dataLt_int, ← decide_not]
@[simp] theorem gt_int : oGt h (.int i) (.int j) = some (.pu (.bl (decide (j < i)))) := by simp [oGt, ord_int, D.pd, PySem.W.dataLt_int]
@[simp] theorem ge_int : oGe h (.int i) (.int j) = some (.pu (.bl (decide (j ≤ i)))) := by simp [oGe, ord_int, D.pd, PySem.W.dataLt_int, ← decide_not]
@[simp] theorem eq_int : oEq h (.int i) (.int j) = some (.pu (.bl (decide (i = j)))) := by
  simp only [oEq, okd_int, D.pd, PyData.eqv, Bool.and_self, if_true]
  congr 3
@[simp] theorem ne_int : oNe h (.int i) (.int j) = some (.pu (.bl (!decide (i = j)))) := by
  simp only [oNe, okd_int, D.pd, PyData.eqv, Bool.and_self, if_true]
  congr 4
@[simp] theorem tru_bl : truB (.bl b) = some b := rfl
@[simp] theorem kit_ii : kitB "int" "int" = some true := by kernel_rfl
@[simp] theorem kit_ib : kitB "int" "bool" = some false := by kernel_rfl
@[simp] theorem kit_it : kitB "int" "tuple" = some false := by kernel_rfl
@[simp] theorem kit_bi : kitB "bool" "int" = some true := by kernel_rfl
@[simp] theorem kit_bb : kitB "bool" "bool" = some true := by kernel_rfl
@[simp] theorem kit_tt : kitB "tuple" "tuple" = some true := by kernel_rfl
@[simp] theorem kit_ti : kitB "tuple" "int" = some false := by kernel_rfl
@[simp] theorem kit_lt : kitB "list" "tuple" = some false := by kernel_rfl
@[simp] theorem kit_nt : kitB "NoneType" "tuple" = some false := by kernel_rfl
@[simp] theorem kit_ni : kitB "NoneType" "int" = some false := by kernel_rfl
@[simp] theorem kit_st : kitB "str" "tuple" = some false := by kernel_rfl
@[simp] theorem kit_si : kitB "str" "int" = some false := by kernel_rfl
@[simp] theorem kit_ss : kitB "str" "str" = some true := by kernel_rfl
@[simp] theorem tyD_int : tyD (.int i) = some "int" := rfl
@[simp] theorem tyD_bl : tyD (.bl b) = some "bool" := rfl
@[simp] theorem tyD_non : tyD .non = some "NoneType" := rfl
@[simp] theorem tyD_str {z : Str} : tyD (.str z) = some "str" := rfl
@[simp] theorem tyD_tup {ds : List D} : tyD (.tup ds) = some "tuple" := rfl
@[simp] theorem tyD_lst {ds : List D} : tyD (.lst ds) = some "list" := rfl
@[simp] theorem tyD_dct {ds : List (D × D)} : tyD (.dct ds) = some "dict" := rfl
@[simp] theorem gIsi_u {n : String} : gIsi h [d, .ty n] = match tyD (der h d) with
    | some t => match kitB t n with
      | some b => some (.pu (.bl b))
      | none => none
    | none => none := rfl
@[simp] theorem gLen_tup {ds : List D} : gLen h [.tup ds] = some (.pu (.int ds.length)) := rfl
@[simp] theorem gLen_lst {ds : List D} : gLen h [.lst ds] = some (.pu (.int ds.length)) := rfl
@[simp] theorem gLen_fzl {ds : List D} : gLen h [.fzl ds] = some (.pu (.int ds.length)) := rfl
@[simp] theorem gLen_dct {ds : List (D × D)} : gLen h [.dct ds] = some (.pu (.int ds.length)) := rfl
@[simp] theorem gInt_int : gInt h [.int i] = some (.pu (.int i)) := rfl
@[simp] theorem gTuple_lst {ds : List D} : gTuple h [.lst ds] = some (.pu (.tup ds)) := rfl
@[simp] theorem gTuple_tup {ds : List D} : gTuple h [.tup ds] = some (.pu (.tup ds)) := rfl
@[simp] theorem oIx_tup {ds : List D} : oIx h (.tup ds) (.int i) = (atI ds i).map .pu := rfl
@[simp] theorem oIx_lst {ds : List D} : oIx h (.lst ds) (.int i) = (atI ds i).map .pu := rfl
@[simp] theorem oIx_fzl {ds : List D} : oIx h (.fzl ds) (.int i) = (atI ds i).map .pu := rfl
theorem atI_n {ds : List D} {n : Nat} (hn : ds[n]? = some d) : atI ds (n : Int) = some d := by
  have hl := (List.getElem?_eq_some_iff.mp hn).1
  unfold atI ixN
  rw [if_pos (by omega), if_pos (by omega)]
  simpa using hn
@[simp] theorem atI_0 {ds : List D} : atI (d :: ds) 0 = some d := atI_n (n := 0) rfl
@[simp] theorem atI_1 {ds : List D} : atI (d :: e :: ds) 1 = some e := atI_n (n := 1) rfl
@[simp] theorem atI_2 {ds : List D} : atI (d :: e :: f :: ds) 2 = some f := atI_n (n := 2) rfl
/-- a small factor -/
theorem mulOk_l (hi : i.natAbs < 2 ^ 64) : mulOk i j = true := by
  have : ¬ (Builtin.Int.intBits i > shortFactorBits) := by
    unfold Builtin.Int.intBits shortFactorBits
    split
    · omega
    · rename_i h0
      have : i.natAbs ≠ 0 := by
        intro z
        have : i = 0 := Int.natAbs_eq_zero.mp z
        simp [this] at h0
      have := (Nat.log2_lt this).mpr hi
      omega
  unfold mulOk
  rw [decide_eq_false this]
  rfl
theorem mulOk_r (hi : j.natAbs < 2 ^ 64) : mulOk i j = true := by
  have : ¬ (Builtin.Int.intBits j > shortFactorBits) := by
    unfold Builtin.Int.intBits shortFactorBits
    split
    · omega
    · rename_i h0
      have : j.natAbs ≠ 0 := by
        intro z
        have : j = 0 := Int.natAbs_eq_zero.mp z
        simp [this] at h0
      have := (Nat.log2_lt this).mpr hi
      omega
  unfold mulOk
  rw [decide_eq_false this, Bool.and_false]
  rfl
theorem mul_l (hi : i.natAbs < 2 ^ 64) : oMul h (.int i) (.int j) = some (.pu (.int (i * j))) := by simp [oMul, mulOk_l hi]
theorem mul_r (hi : j.natAbs < 2 ^ 64) : oMul h (.int i) (.int j) = some (.pu (.int (i * j))) := by simp [oMul, mulOk_r hi]
theorem pylong_no (hj : j.natAbs < 2 ^ 64) : Builtin.divisionGoesByPylong i j = false := by
  unfold Builtin.divisionGoesByPylong
  rw [Bool.and_eq_false_iff]
  left
  rw [decide_eq_false_iff_not]
  simp only [gt_iff_lt, Nat.not_lt]
  split
  · omega
  · rename_i h0
    have h1 : j.natAbs ≠ 0 := by
      intro z
      have : j = 0 := Int.natAbs_eq_zero.mp z
      simp [this] at h0
    have := (Nat.log2_lt h1).mpr hj
    omega
theorem div_int (h0 : j ≠ 0) (hj : Builtin.divisionGoesByPylong i j = false) : oDiv h (.int i) (.int j) = some (.pu (.int (i.fdiv j))) := by simp [oDiv, h0, hj]
theorem mod_int (h0 : j ≠ 0) : oMod h (.int i) (.int j) = some (.pu (.int (i.fmod j))) := by simp [oMod, h0]
end

/-! ### loops -/
/-- a for loop, by places -/
theorem for_ix {chk : EH → Bool} {t : Tt} {b : SM} : ∀ (ds : List D) (I : Nat → Tu → EH → Prop) (n : Nat) {τ : Tu} {h : EH}, I n τ h → (∀ i τ h, I i τ h → chk h = true) →
    (∀ (i : Nat) (hi : i < ds.length) (τ : Tu) (h : EH), I (n + i) τ h → ∃ τ1 τ' h', fOf t ds[i] τ = some τ1 ∧ (b τ1 h = .nx τ' h' ∨ b τ1 h = .cnt τ' h') ∧ I (n + i + 1) τ' h') → ∃ τ' h', I (n + ds.length) τ' h' ∧ forGo chk t b ds τ h = .nx τ' h'
  | [], I, n, τ, h, h0, hc, _ => ⟨τ, h, h0, by simp [forGo, hc _ _ _ h0]⟩
  | d :: ds, I, n, τ, h, h0, hc, st => by
    obtain ⟨τ1, τ', h', e1, e2, e3⟩ := st 0 (by simp) τ h h0
    obtain ⟨τ2, h2, g1, g2⟩ := for_ix ds I (n + 1) (by simpa using e3) hc fun i hi τ h q => by
      obtain ⟨τ1, τ', h', f1, f2, f3⟩ := st (i + 1) (by simp; omega) τ h (by rw [show n + (i + 1) = n + 1 + i by omega]; exact q)
      exact ⟨τ1, τ', h', by simpa using f1, f2, by rw [show n + 1 + i + 1 = n + (i + 1) + 1 by omega]; exact f3⟩
    refine ⟨τ2, h2, by rw [show n + (d :: ds).length = n + 1 + ds.length by simp; omega]; exact g1, ?_⟩
    have e1' : fOf t d τ = some τ1 := by simpa using e1
    unfold forGo
    rw [if_pos (hc _ _ _ h0), e1']
    rcases e2 with e2 | e2 <;> simp only [e2, loopEnd] <;> exact g2
/-- a for loop that leaves at the first that fails -/
theorem for_all {chk : EH → Bool} {t : Tt} {b : SM} {P : D → Bool} {s : Sl} {h : EH} (hc : chk h = true) (I : Tu → Prop) : ∀ (ds : List D) {τ : Tu}, I τ →
    (∀ d ∈ ds, ∀ τ, I τ → ∃ τ1, fOf t d τ = some τ1 ∧ ((P d = true ∧ ∃ τ', b τ1 h = .nx τ' h ∧ I τ') ∨ (P d = false ∧ b τ1 h = .ret s h))) → (ds.all P = true ∧ ∃ τ', I τ' ∧ forGo chk t b ds τ h = .nx τ' h) ∨ (ds.all P = false ∧ forGo chk t b ds τ h = .ret s h)
  | [], τ, h0, _ => .inl ⟨rfl, τ, h0, by simp [forGo, hc]⟩
  | d :: ds, τ, h0, st => by
    obtain ⟨τ1, e1, e2⟩ := st d List.mem_cons_self τ h0
    rcases e2 with ⟨p, τ', e3, e4⟩ | ⟨p, e3⟩
    · rcases for_all hc I ds e4 fun d hd τ q => st d (List.mem_cons_of_mem _ hd) τ q with ⟨g1, τ2, g2, g3⟩ | ⟨g1, g2⟩
      · exact .inl ⟨by simp [p, g1], τ2, g2, by simp [forGo, hc, e1, e3, loopEnd, g3]⟩
      · exact .inr ⟨by simp [p, g1], by simp [forGo, hc, e1, e3, loopEnd, g2]⟩
    · exact .inr ⟨by simp [p], by simp [forGo, hc, e1, e3, loopEnd]⟩
/-- a comprehension that changes nothing -/
theorem lc_map {chk : EH → Bool} {blk : D → EH → R (List D)} {f : D → List D} {h : EH} (hc : chk h = true) : ∀ (ds : List D), (∀ d ∈ ds, blk d h = .ok (f d) h) → lcGo chk blk ds h = .ok (ds.flatMap f) h
  | [], _ => by simp [lcGo, hc]
  | d :: ds, g => by simp [lcGo, hc, g d List.mem_cons_self, lc_map hc ds fun e he => g e (List.mem_cons_of_mem _ he)]
theorem lcEnd_ok {zs : List D} {h : EH} (hl : zs.length ≤ L) : lcEnd (.ok zs h) = .ok (.ow (.lst zs)) h := by simp [lcEnd, hl]
/-- a while loop -/
theorem while_mono {c : BM} {b : SM} : ∀ (n : Nat) {k : Nat} {τ : Tu} {h : EH}, whileN c b n τ h ≠ .no → whileN c b (n + k) τ h = whileN c b n τ h
  | 0, k, τ, h, q => absurd rfl q
  | n + 1, k, τ, h, q => by
    rw [show n + 1 + k = (n + k) + 1 by omega]
    unfold whileN at q ⊢
    cases e : c τ h with
    | no => rfl
    | exc _ _ => rfl
    | ok t h1 =>
      rw [e] at q
      simp only [v_tok] at q ⊢
      split
      · rename_i ht
        rw [if_pos ht] at q
        cases e2 : b τ h1 with
        | nx τ' h' =>
          rw [e2] at q
          exact while_mono n (k := k) q
        | cnt τ' h' =>
          rw [e2] at q
          exact while_mono n (k := k) q
        | _ => rfl
      · rfl
theorem while_eq {c : BM} {b : SM} {n : Nat} {τ : Tu} {h : EH} {r : Sz} (hr : r ≠ .no) (e : whileN c b n τ h = r) : mWhile c b τ h = r := by
  have hn : ∃ n, whileN c b n τ h ≠ .no := ⟨n, by rw [e]; exact hr⟩
  unfold mWhile
  rw [dif_pos hn]
  have h1 := while_mono (c := c) (b := b) hn.choose (k := n) hn.choose_spec
  have h2 := while_mono (c := c) (b := b) n (k := hn.choose) (τ := τ) (h := h) (by rw [e]; exact hr)
  rw [← h1, Nat.add_comm, h2, e]
end Mp

set_option Elab.async false
set_option linter.all false
set_option maxRecDepth 100000
noncomputable section
namespace K74
open PySem PySem.Spec L2 Mp
open PyProof.Rows hiding St
def top (i : Nat) : Stmt := PySem.Challenge.pw_whyanswers_k74_expected_numbers_of_match.main.body.getD i (.Pass ⟨0, 0, 0, 0⟩)
abbrev s_is_integer : Stmt := top 11
abbrev s_are_ascending : Stmt := top 12
abbrev s_are_counted : Stmt := top 14
abbrev s_common : Stmt := top 18
abbrev s__law_bag : Stmt := top 33
abbrev s__law_draw : Stmt := top 34
abbrev s__law_all : Stmt := top 38
abbrev s__law_same : Stmt := top 39
abbrev s__law_is_low : Stmt := top 40
abbrev s_is_sum : Stmt := top 15
abbrev s_lowest : Stmt := top 19
abbrev s_is_part : Stmt := top 20
abbrev s__law_one : Stmt := top 35
abbrev s__law_sum : Stmt := top 37
abbrev s_check_sum : Stmt := top 16
abbrev s_all_there : Stmt := top 24
abbrev s_added : Stmt := top 25
abbrev s_check_chances : Stmt := top 23
abbrev s_expected_of : Stmt := top 26
abbrev s_square_of : Stmt := top 28
abbrev s_expected : Stmt := top 27
abbrev s_expected_square : Stmt := top 29
abbrev s_bounds : Stmt := top 30
abbrev s_spread : Stmt := top 31
abbrev s__law_told : Stmt := top 36
abbrev s__law_case : Stmt := top 41
abbrev s_law : Stmt := top 42
def subs : Subs := subsOf [("BadSum", "TooFar", false), ("BadSum", "NoSuch", false), ("BadSum", "BadPaper", false), ("BadSum", "BadSum", true), ("BadSum", "BadQuestion", false), ("BadSum", "BadTables", false), ("NoSuch", "TooFar", false), ("NoSuch", "NoSuch", true), ("NoSuch", "BadPaper", false), ("NoSuch", "BadSum", false), ("NoSuch", "BadQuestion", false), ("NoSuch", "BadTables", false), ("TooFar", "TooFar", true), ("TooFar", "NoSuch", false), ("TooFar", "BadPaper", false), ("TooFar", "BadSum", false), ("TooFar", "BadQuestion", false), ("TooFar", "BadTables", false)]
/-! what each def means -/
def m_is_integer : SM := (mSeq (mRet (pm (mAndV (fm (mCall gIsi (mCons (mPeek 0) (mCons (mLit (.ty "int")) mNil)))) (mAndV (mNotV (fm (mCall gIsi (mCons (mPeek 0) (mCons (mLit (.ty "bool")) mNil))))) (mChain oLe oLe (mVar 1) (mVar 0) (mVar 2))))))
    mNext)
def F_is_integer : FN := bodyF 3 3 m_is_integer
def m_are_ascending : SM := (mSeq (mRet (mCall gAll (mCons (fm (mLc (mZip (mCons (mPeek 0) (mCons (fm (mSl (mPeek 0) (mPart (mLit (.int 1))) mNoPart)) mNil))) (.tp (.cons (.nm 1) (.cons (.nm 2) .nil))) [1, 2] mYes (fm (mBin oLt (mPeek 1) (mPeek 2))))) mNil)))
    mNext)
def F_are_ascending : FN := bodyF 3 1 m_are_ascending
def m_are_counted : SM := (mSeq (mIf (mNotT (mTru (fm (mCall gIsi (mCons (mPeek 0) (mCons (mLit (.ty "tuple")) mNil))))))
      (mSeq (mRet (pm (mLit (.bl false))))
    mNext)
      mNext)
    (mSeq (mFor (mWalk (mVar 0)) (.nm 1)
      (mSeq (mIf (mOrT (mNotT (mTru (fm (mCall gIsi (mCons (mPeek 1) (mCons (mLit (.ty "tuple")) mNil)))))) (mTst (mBin oNe (fm (mCall gLen (mCons (mPeek 1) mNil))) (mLit (.int 2)))))
      (mSeq (mRet (pm (mLit (.bl false))))
    mNext)
      mNext)
    (mSeq (mIf (mOrT (mNotT (mTru (fm (mCall gIsi (mCons (fm (mBin oIx (mPeek 1) (mLit (.int 1)))) (mCons (mLit (.ty "int")) mNil)))))) (mOrT (mTru (fm (mCall gIsi (mCons (fm (mBin oIx (mPeek 1) (mLit (.int 1)))) (mCons (mLit (.ty "bool")) mNil))))) (mTst (mBin oLt (fm (mBin oIx (mPeek 1) (mLit (.int 1)))) (mLit (.int 1))))))
      (mSeq (mRet (pm (mLit (.bl false))))
    mNext)
      mNext)
    mNext)))
    (mSeq (mRet (pm (mLit (.bl true))))
    mNext)))
def F_are_counted : FN := bodyF 2 1 m_are_counted
def m_common : SM := (mSeq (mWhile (mTst (mBin oNe (mPeek 1) (mLit (.int 0))))
      (mSeq (mPar 0 1 (mCons (mVar 1) (mCons (fm (mBin oMod (mPeek 0) (mPeek 1))) mNil)))
    mNext))
    (mSeq (mRetV 0)
    mNext))
def F_common : FN := bodyF 2 2 m_common
def m__law_bag : SM := (mSeq (mSet 2 (pm (mLit (.int 0))))
    (mSeq (mIf (mTst (mBin oLt (mPeek 1) (fm (mCall gLen (mCons (mPeek 0) mNil)))))
      (mSeq (mSet 2 (mCall gInt (mCons (fm (mBin oIx (mPeek 0) (mPeek 1))) mNil)))
    mNext)
      mNext)
    (mSeq (mIf (mTst (mBin oGe (mPeek 2) (fm (mBin oPow (mLit (.int 10)) (mLit (.int 18))))))
      (mSeq (mRet (mLst (mCons (mVar 2) (mCons (mVar 2) (mCons (mVar 1) mNil)))))
    mNext)
      mNext)
    (mSeq (mRet (mLst (mCons (mLit (.int 0)) (mCons (mVar 2) (mCons (mVar 1) mNil)))))
    mNext))))
def F__law_bag : FN := bodyF 3 2 m__law_bag
def m__law_draw : SM := (mSeq (mIf (mTst (mBin oEq (fm (mBin oIx (mPeek 0) (mLit (.int 0)))) (mLit (.int 0))))
      (mSeq (mSet 2 (mBin oMod (fm (mCall gInt (mCons (fm (mBin oAdd (fm (mBin oAdd (fm (mBin oMul (fm (mBin oIx (mPeek 0) (mLit (.int 1)))) (mLit (.int 48271)))) (fm (mBin oMul (fm (mBin oIx (mPeek 0) (mLit (.int 2)))) (mLit (.int 69621)))))) (mLit (.int 11)))) mNil))) (mLit (.int 2147483647))))
    (mSeq (mSubV 0 (mLit (.int 0)) (fm (mBin oAdd (fm (mBin oMul (mPeek 2) (mLit (.int 2147483629)))) (fm (mBin oMod (fm (mCall gInt (mCons (fm (mBin oAdd (fm (mBin oMul (mPeek 2) (mPeek 2))) (fm (mBin oMul (fm (mBin oIx (mPeek 0) (mLit (.int 2)))) (mLit (.int 16807)))))) mNil))) (mLit (.int 2147483629)))))))
    (mSeq (mSubV 0 (mLit (.int 1)) (mVar 2))
    mNext)))
      mNext)
    (mSeq (mSet 3 (mBin oIx (mPeek 0) (mLit (.int 0))))
    (mSeq (mSubV 0 (mLit (.int 0)) (fm (mBin oDiv (mPeek 3) (mPeek 1))))
    (mSeq (mRet (mBin oMod (fm (mCall gInt (mCons (mPeek 3) mNil))) (mPeek 1)))
    mNext))))
def F__law_draw : FN := bodyF 4 2 m__law_draw
def m__law_all : SM := (mSeq (mSet 1 (mLst (mCons (mTup mNil) mNil)))
    (mSeq (mFor (mRng rngB1 (mCons (mPeek 0) mNil)) (.nm 2)
      (mSeq (mSet 1 (mBin oAdd (mPeek 1) (fm (mLc (mWalk (mPeek 1)) (.nm 3) [3] mYes (fm (mBin oAdd (mPeek 3) (mTup (mCons (mVar 2) mNil))))))))
    mNext))
    (mSeq (mRetV 1)
    mNext)))
def F__law_all : FN := bodyF 4 1 m__law_all
def m__law_same : SM := (mSeq (mRet (mBin oEq (fm (mBin oMul (fm (mBin oIx (mPeek 0) (mLit (.int 0)))) (fm (mBin oIx (mPeek 1) (mLit (.int 1)))))) (fm (mBin oMul (fm (mBin oIx (mPeek 0) (mLit (.int 1)))) (fm (mBin oIx (mPeek 1) (mLit (.int 0))))))))
    mNext)
def F__law_same : FN := bodyF 2 2 m__law_same
def m__law_is_low : SM := (mSeq (mAsg (.tp (.cons (.nm 1) (.cons (.nm 2) .nil))) (mVar 0))
    (mSeq (mWhile (mTst (mBin oGt (mPeek 2) (mLit (.int 0))))
      (mSeq (mPar 1 2 (mCons (mVar 2) (mCons (fm (mBin oMod (mPeek 1) (mPeek 2))) mNil)))
    mNext))
    (mSeq (mRet (pm (mAndV (fm (mBin oGt (fm (mBin oIx (mPeek 0) (mLit (.int 1)))) (mLit (.int 0)))) (fm (mBin oEq (mPeek 1) (mLit (.int 1)))))))
    mNext)))
def F__law_is_low : FN := bodyF 3 1 m__law_is_low
def m_is_sum : SM := (mSeq (mIf (mOrT (mNotT (mTru (fm (mOwn F_is_integer (mCons (mVar 1) (mCons (mLit (.int 0)) (mCons (mLit (.int 40)) mNil))))))) (mOrT (mNotT (mTru (fm (mOwn F_are_counted (mCons (mVar 0) mNil))))) (mTst (mBin oGt (fm (mCall gLen (mCons (mPeek 0) mNil))) (mLit (.int 2000))))))
      (mSeq (mRet (pm (mLit (.bl false))))
    mNext)
      mNext)
    (mSeq (mFor (mWalk (mVar 0)) (.tp (.cons (.nm 2) (.cons (.nm 3) .nil)))
      (mSeq (mIf (mOrT (mNotT (mTru (fm (mOwn F_are_counted (mCons (mVar 2) mNil))))) (mNotT (mTru (fm (mCall gAll (mCons (fm (mLc (mWalk (mPeek 2)) (.tp (.cons (.nm 4) (.cons (.nm 3) .nil))) [4, 3] mYes (fm (mOwn F_is_integer (mCons (mVar 4) (mCons (mLit (.int 0)) (mCons (fm (mBin oSub (mPeek 1) (mLit (.int 1)))) mNil))))))) mNil))))))
      (mSeq (mRet (pm (mLit (.bl false))))
    mNext)
      mNext)
    (mSeq (mIf (mNotT (mTru (fm (mOwn F_are_ascending (mCons (fm (mLc (mWalk (mPeek 2)) (.tp (.cons (.nm 4) (.cons (.nm 3) .nil))) [4, 3] mYes (mVar 4))) mNil)))))
      (mSeq (mRet (pm (mLit (.bl false))))
    mNext)
      mNext)
    mNext)))
    (mSeq (mRet (mOwn F_are_ascending (mCons (fm (mLc (mWalk (mPeek 0)) (.tp (.cons (.nm 2) (.cons (.nm 3) .nil))) [2, 3] mYes (mVar 2))) mNil)))
    mNext)))
def F_is_sum : FN := bodyF 5 2 m_is_sum
def m_lowest : SM := (mSeq (mSet 2 (mOwn F_common (mCons (mVar 0) (mCons (mVar 1) mNil))))
    (mSeq (mRet (pm (mTup (mCons (fm (mBin oDiv (mPeek 0) (mPeek 2))) (mCons (fm (mBin oDiv (mPeek 1) (mPeek 2))) mNil)))))
    mNext))
def F_lowest : FN := bodyF 3 2 m_lowest
def m_is_part : SM := (mSeq (mIf (mOrT (mNotT (mTru (fm (mCall gIsi (mCons (mPeek 0) (mCons (mLit (.ty "tuple")) mNil)))))) (mTst (mBin oNe (fm (mCall gLen (mCons (mPeek 0) mNil))) (mLit (.int 2)))))
      (mSeq (mRet (pm (mLit (.bl false))))
    mNext)
      mNext)
    (mSeq (mIf (mOrT (mNotT (mTru (fm (mOwn F_is_integer (mCons (fm (mBin oIx (mPeek 0) (mLit (.int 1)))) (mCons (mLit (.int 1)) (mCons (fm (mBin oSub (fm (mBin oPow (mLit (.int 10)) (mLit (.int 20)))) (mLit (.int 1)))) mNil))))))) (mNotT (mTru (fm (mOwn F_is_integer (mCons (fm (mBin oIx (mPeek 0) (mLit (.int 0)))) (mCons (mLit (.int 0)) (mCons (fm (mBin oIx (mPeek 0) (mLit (.int 1)))) mNil))))))))
      (mSeq (mRet (pm (mLit (.bl false))))
    mNext)
      mNext)
    (mSeq (mRet (mBin oEq (fm (mOwn F_common (mCons (fm (mBin oIx (mPeek 0) (mLit (.int 0)))) (mCons (fm (mBin oIx (mPeek 0) (mLit (.int 1)))) mNil)))) (mLit (.int 1))))
    mNext)))
def F_is_part : FN := bodyF 1 1 m_is_part
def m__law_one : SM := (mSeq (mRet (mBin oIx (mPeek 1) (fm (mOwn F__law_draw (mCons (mVar 0) (mCons (fm (mCall gLen (mCons (mPeek 1) mNil))) mNil))))))
    mNext)
def F__law_one : FN := bodyF 2 2 m__law_one
def m__law_sum : SM := (mSeq (mSet 2 mDct0)
    (mSeq (mFor (mRng rngB1 (mCons (fm (mOwn F__law_draw (mCons (mVar 0) (mCons (mLit (.int 6)) mNil)))) mNil)) (.nm 3)
      (mSeq (mSet 4 mDct0)
    (mSeq (mFor (mRng rngB1 (mCons (fm (mOwn F__law_draw (mCons (mVar 0) (mCons (mLit (.int 4)) mNil)))) mNil)) (.nm 5)
      (mSeq (mSubV 4 (fm (mOwn F__law_draw (mCons (mVar 0) (mCons (mVar 1) mNil)))) (fm (mBin oAdd (mLit (.int 1)) (fm (mOwn F__law_draw (mCons (mVar 0) (mCons (mLit (.int 2)) mNil)))))))
    mNext))
    (mSeq (mSubV 2 (fm (mCall gTuple (mCons (fm (mSortIt (mPeek 4))) mNil))) (fm (mBin oAdd (mLit (.int 1)) (fm (mOwn F__law_draw (mCons (mVar 0) (mCons (mLit (.int 3)) mNil)))))))
    mNext))))
    (mSeq (mRet (mCall gTuple (mCons (fm (mSortIt (mPeek 2))) mNil)))
    mNext)))
def F__law_sum : FN := bodyF 6 2 m__law_sum
def m_check_sum : SM := (mSeq (mIf (mNotT (mTru (fm (mOwn F_is_sum (mCons (mVar 0) (mCons (mLit (.int 40)) mNil))))))
      (mSeq (mRaise0 "BadSum")
    mNext)
      mNext)
    mNext)
def F_check_sum : FN := bodyF 1 1 m_check_sum
def m_all_there : SM := (mSeq (mAsg (.tp (.cons (.nm 2) (.cons (.nm 3) .nil))) (mTup (mCons (mLit (.int 1)) (mCons (mLit (.int 1)) mNil))))
    (mSeq (mFor (mWalk (mVar 0)) (.nm 4)
      (mSeq (mPar 2 3 (mCons (fm (mBin oMul (mPeek 2) (fm (mBin oIx (fm (mBin oIx (mPeek 1) (mPeek 4))) (mLit (.int 0)))))) (mCons (fm (mBin oMul (mPeek 3) (fm (mBin oIx (fm (mBin oIx (mPeek 1) (mPeek 4))) (mLit (.int 1)))))) mNil)))
    mNext))
    (mSeq (mRet (mOwn F_lowest (mCons (mVar 2) (mCons (mVar 3) mNil))))
    mNext)))
def F_all_there : FN := bodyF 5 2 m_all_there
def m_added : SM := (mSeq (mRet (mOwn F_lowest (mCons (fm (mBin oAdd (fm (mBin oMul (fm (mBin oIx (mPeek 0) (mLit (.int 0)))) (fm (mBin oIx (mPeek 1) (mLit (.int 1)))))) (fm (mBin oMul (fm (mBin oIx (mPeek 1) (mLit (.int 0)))) (fm (mBin oIx (mPeek 0) (mLit (.int 1)))))))) (mCons (fm (mBin oMul (fm (mBin oIx (mPeek 0) (mLit (.int 1)))) (fm (mBin oIx (mPeek 1) (mLit (.int 1)))))) mNil))))
    mNext)
def F_added : FN := bodyF 2 2 m_added
def m_check_chances : SM := (mSeq (mDrop (fm (mOwn F_check_sum (mCons (mVar 0) mNil))))
    (mSeq (mIf (mOrT (mNotT (mTru (fm (mCall gIsi (mCons (mPeek 1) (mCons (mLit (.ty "tuple")) mNil)))))) (mOrT (mTst (mBin oGt (fm (mCall gLen (mCons (mPeek 1) mNil))) (mLit (.int 40)))) (mNotT (mTru (fm (mCall gAll (mCons (fm (mLc (mWalk (mPeek 1)) (.nm 2) [2] mYes (fm (mOwn F_is_part (mCons (mVar 2) mNil))))) mNil)))))))
      (mSeq (mRaise0 "NoSuch")
    mNext)
      mNext)
    (mSeq (mIf (mNotT (mTru (fm (mOwn F_is_sum (mCons (mVar 0) (mCons (fm (mCall gLen (mCons (mPeek 1) mNil))) mNil))))))
      (mSeq (mRaise0 "NoSuch")
    mNext)
      mNext)
    (mSeq (mIf (mTst (mBin oGt (fm (mCall gLen (mCons (mPeek 0) mNil))) (mLit (.int 200))))
      (mSeq (mRaise0 "TooFar")
    mNext)
      mNext)
    mNext))))
def F_check_chances : FN := bodyF 3 2 m_check_chances
def m_expected_of : SM := (mSeq (mSet 2 (pm (mTup (mCons (mLit (.int 0)) (mCons (mLit (.int 1)) mNil)))))
    (mSeq (mFor (mWalk (mVar 0)) (.tp (.cons (.nm 3) (.cons (.nm 4) .nil)))
      (mSeq (mAsg (.tp (.cons (.nm 5) (.cons (.nm 6) .nil))) (fm (mOwn F_all_there (mCons (fm (mLc (mWalk (mPeek 3)) (.tp (.cons (.nm 7) (.cons (.nm 8) .nil))) [7, 8] mYes (mVar 7))) (mCons (mVar 1) mNil)))))
    (mSeq (mSet 2 (mOwn F_added (mCons (mVar 2) (mCons (mTup (mCons (fm (mBin oMul (mPeek 4) (mPeek 5))) (mCons (mVar 6) mNil))) mNil))))
    mNext)))
    (mSeq (mRetV 2)
    mNext)))
def F_expected_of : FN := bodyF 9 2 m_expected_of
def m_square_of : SM := (mSeq (mSet 2 (pm (mTup (mCons (mLit (.int 0)) (mCons (mLit (.int 1)) mNil)))))
    (mSeq (mFor (mWalk (mVar 0)) (.tp (.cons (.nm 3) (.cons (.nm 4) .nil)))
      (mSeq (mFor (mWalk (mVar 0)) (.tp (.cons (.nm 5) (.cons (.nm 6) .nil)))
      (mSeq (mSet 7 (mCall gSorted (mCons (fm (mCall gDict (mCons (fm (mBin oAdd (mPeek 3) (mPeek 5))) mNil))) mNil)))
    (mSeq (mShare 7 (mAsg (.tp (.cons (.nm 8) (.cons (.nm 9) .nil))) (fm (mOwn F_all_there (mCons (mVar 7) (mCons (mVar 1) mNil))))))
    (mSeq (mSet 2 (mOwn F_added (mCons (mVar 2) (mCons (mTup (mCons (fm (mBin oMul (fm (mBin oMul (mPeek 4) (mPeek 6))) (mPeek 8))) (mCons (mVar 9) mNil))) mNil))))
    mNext))))
    mNext))
    (mSeq (mRetV 2)
    mNext)))
def F_square_of : FN := bodyF 10 2 m_square_of
def m_expected : SM := (mSeq (mDrop (fm (mOwn F_check_chances (mCons (mVar 0) (mCons (mVar 1) mNil)))))
    (mSeq (mRet (mOwn F_expected_of (mCons (mVar 0) (mCons (mVar 1) mNil))))
    mNext))
def F_expected : FN := bodyF 2 2 m_expected
def m_expected_square : SM := (mSeq (mDrop (fm (mOwn F_check_chances (mCons (mVar 0) (mCons (mVar 1) mNil)))))
    (mSeq (mRet (mOwn F_square_of (mCons (mVar 0) (mCons (mVar 1) mNil))))
    mNext))
def F_expected_square : FN := bodyF 2 2 m_expected_square
def m_bounds : SM := (mSeq (mDrop (fm (mOwn F_check_chances (mCons (mVar 0) (mCons (mVar 1) mNil)))))
    (mSeq (mAsg (.tp (.cons (.nm 2) (.cons (.nm 3) .nil))) (fm (mOwn F_expected_of (mCons (mVar 0) (mCons (mVar 1) mNil)))))
    (mSeq (mIf (mTst (mBin oEq (mPeek 2) (mLit (.int 0))))
      (mSeq (mRet (pm (mTup (mCons (mTup (mCons (mLit (.int 0)) (mCons (mLit (.int 1)) mNil))) (mCons (mTup (mCons (mLit (.int 0)) (mCons (mLit (.int 1)) mNil))) mNil)))))
    mNext)
      mNext)
    (mSeq (mSet 4 (pm (mTup (mCons (mVar 2) (mCons (mVar 3) mNil)))))
    (mSeq (mIf (mTst (mBin oGt (mPeek 2) (mPeek 3)))
      (mSeq (mSet 4 (pm (mTup (mCons (mLit (.int 1)) (mCons (mLit (.int 1)) mNil)))))
    mNext)
      mNext)
    (mSeq (mAsg (.tp (.cons (.nm 5) (.cons (.nm 6) .nil))) (fm (mOwn F_square_of (mCons (mVar 0) (mCons (mVar 1) mNil)))))
    (mSeq (mRet (pm (mTup (mCons (fm (mOwn F_lowest (mCons (fm (mBin oMul (fm (mBin oMul (mPeek 2) (mPeek 2))) (mPeek 6))) (mCons (fm (mBin oMul (fm (mBin oMul (mPeek 3) (mPeek 3))) (mPeek 5))) mNil)))) (mCons (mVar 4) mNil)))))
    mNext)))))))
def F_bounds : FN := bodyF 7 2 m_bounds
def m_spread : SM := (mSeq (mDrop (fm (mOwn F_check_chances (mCons (mVar 0) (mCons (mVar 1) mNil)))))
    (mSeq (mAsg (.tp (.cons (.nm 2) (.cons (.nm 3) .nil))) (fm (mOwn F_expected_of (mCons (mVar 0) (mCons (mVar 1) mNil)))))
    (mSeq (mAsg (.tp (.cons (.nm 4) (.cons (.nm 5) .nil))) (fm (mOwn F_square_of (mCons (mVar 0) (mCons (mVar 1) mNil)))))
    (mSeq (mRet (mOwn F_lowest (mCons (fm (mBin oSub (fm (mBin oMul (fm (mBin oMul (mPeek 4) (mPeek 3))) (mPeek 3))) (fm (mBin oMul (fm (mBin oMul (mPeek 2) (mPeek 2))) (mPeek 5))))) (mCons (fm (mBin oMul (fm (mBin oMul (mPeek 5) (mPeek 3))) (mPeek 3))) mNil))))
    mNext))))
def F_spread : FN := bodyF 6 2 m_spread
def m__law_told : SM := (mSeq (mTry subs (mSeq (mIf (mTst (mBin oEq (fm (mCall gLen (mCons (mPeek 1) mNil))) (mLit (.int 1))))
      (mSeq (mRet (mCallV (tblOf []) 0 (mCons (fm (mBin oIx (mPeek 1) (mLit (.int 0)))) mNil)))
    mNext)
      mNext)
    (mSeq (mIf (mTst (mBin oEq (fm (mCall gLen (mCons (mPeek 1) mNil))) (mLit (.int 2))))
      (mSeq (mRet (mCallV (tblOf [("expected", F_expected), ("expected_square", F_expected_square), ("bounds", F_bounds), ("spread", F_spread)]) 0 (mCons (fm (mBin oIx (mPeek 1) (mLit (.int 0)))) (mCons (fm (mBin oIx (mPeek 1) (mLit (.int 1)))) mNil))))
    mNext)
      mNext)
    (mSeq (mIf (mTst (mBin oEq (fm (mCall gLen (mCons (mPeek 1) mNil))) (mLit (.int 3))))
      (mSeq (mRet (mCallV (tblOf []) 0 (mCons (fm (mBin oIx (mPeek 1) (mLit (.int 0)))) (mCons (fm (mBin oIx (mPeek 1) (mLit (.int 1)))) (mCons (fm (mBin oIx (mPeek 1) (mLit (.int 2)))) mNil)))))
    mNext)
      mNext)
    (mSeq (mIf (mTst (mBin oEq (fm (mCall gLen (mCons (mPeek 1) mNil))) (mLit (.int 4))))
      (mSeq (mRet (mCallV (tblOf []) 0 (mCons (fm (mBin oIx (mPeek 1) (mLit (.int 0)))) (mCons (fm (mBin oIx (mPeek 1) (mLit (.int 1)))) (mCons (fm (mBin oIx (mPeek 1) (mLit (.int 2)))) (mCons (fm (mBin oIx (mPeek 1) (mLit (.int 3)))) mNil))))))
    mNext)
      mNext)
    (mSeq (mIf (mTst (mBin oEq (fm (mCall gLen (mCons (mPeek 1) mNil))) (mLit (.int 5))))
      (mSeq (mRet (mCallV (tblOf []) 0 (mCons (fm (mBin oIx (mPeek 1) (mLit (.int 0)))) (mCons (fm (mBin oIx (mPeek 1) (mLit (.int 1)))) (mCons (fm (mBin oIx (mPeek 1) (mLit (.int 2)))) (mCons (fm (mBin oIx (mPeek 1) (mLit (.int 3)))) (mCons (fm (mBin oIx (mPeek 1) (mLit (.int 4)))) mNil)))))))
    mNext)
      mNext)
    (mSeq (mRet (mCallV (tblOf []) 0 (mCons (fm (mBin oIx (mPeek 1) (mLit (.int 0)))) (mCons (fm (mBin oIx (mPeek 1) (mLit (.int 1)))) (mCons (fm (mBin oIx (mPeek 1) (mLit (.int 2)))) (mCons (fm (mBin oIx (mPeek 1) (mLit (.int 3)))) (mCons (fm (mBin oIx (mPeek 1) (mLit (.int 4)))) (mCons (fm (mBin oIx (mPeek 1) (mLit (.int 5)))) mNil))))))))
    mNext))))))
      [("BadTables", some (mSeq (mRet (pm (mLit (.str "tables"))))
    mNext)), ("BadQuestion", some (mSeq (mRet (pm (mLit (.str "question"))))
    mNext)), ("BadSum", some (mSeq (mRet (pm (mLit (.str "sum"))))
    mNext)), ("BadPaper", none), ("NoSuch", some (mSeq (mRet (pm (mLit (.str "none"))))
    mNext)), ("TooFar", some (mSeq (mRet (pm (mLit (.str "far"))))
    mNext))])
    mNext)
def F__law_told : FN := bodyF 3 2 m__law_told
def m__law_case : SM := (mSeq (mSet 1 (mBin oAdd (mLit (.int 1)) (fm (mOwn F__law_draw (mCons (mVar 0) (mCons (mLit (.int 6)) mNil))))))
    (mSeq (mSet 2 (mOwn F__law_sum (mCons (mVar 0) (mCons (mVar 1) mNil))))
    (mSeq (mSet 3 (mCall gTuple (mCons (fm (mLc (mRng rngB1 (mCons (mPeek 1) mNil)) (.nm 12) [12] mYes (fm (mOwn F__law_one (mCons (mVar 0) (mCons (fm (mLst (mCons (mTup (mCons (mLit (.int 1)) (mCons (mLit (.int 2)) mNil))) (mCons (mTup (mCons (mLit (.int 0)) (mCons (mLit (.int 1)) mNil))) (mCons (mTup (mCons (mLit (.int 1)) (mCons (mLit (.int 1)) mNil))) (mCons (mTup (mCons (mLit (.int 1)) (mCons (mLit (.int 3)) mNil))) (mCons (mTup (mCons (mLit (.int 3)) (mCons (mLit (.int 4)) mNil))) (mCons (mTup (mCons (mLit (.int 2)) (mCons (mLit (.int 5)) mNil))) mNil)))))))) mNil)))))) mNil)))
    (mSeq (mSet 4 (pm (mLit (.int 1))))
    (mSeq (mFor (mWalk (mVar 3)) (.nm 5)
      (mSeq (mSet 4 (mBin oMul (mPeek 4) (fm (mBin oIx (mPeek 5) (mLit (.int 1))))))
    mNext))
    (mSeq (mAsg (.tp (.cons (.nm 6) (.cons (.nm 7) (.cons (.nm 8) .nil)))) (mTup (mCons (mLit (.int 0)) (mCons (mLit (.int 0)) (mCons (mLit (.int 0)) mNil)))))
    (mSeq (mSet 9 mDct0)
    (mSeq (mFor (mWalk (fm (mOwn F__law_all (mCons (mVar 1) mNil)))) (.nm 10)
      (mSeq (mSet 11 (pm (mLit (.int 1))))
    (mSeq (mFor (mRng rngB1 (mCons (mPeek 1) mNil)) (.nm 12)
      (mSeq (mSet 11 (mBin oMul (mPeek 11) (mIfE (mTst (mBin (oIn false) (mPeek 12) (mPeek 10))) (fm (mBin oIx (fm (mBin oIx (mPeek 3) (mPeek 12))) (mLit (.int 0)))) (fm (mBin oSub (fm (mBin oIx (fm (mBin oIx (mPeek 3) (mPeek 12))) (mLit (.int 1)))) (fm (mBin oIx (fm (mBin oIx (mPeek 3) (mPeek 12))) (mLit (.int 0)))))))))
    mNext))
    (mSeq (mSet 13 (mCall gSum (mCons (fm (mLc (mWalk (mPeek 2)) (.tp (.cons (.nm 19) (.cons (.nm 20) .nil))) [19, 20] (mTst (mBin oEq (fm (mLc (mWalk (mPeek 19)) (.tp (.cons (.nm 12) (.cons (.nm 21) .nil))) [12, 21] (mTst (mBin (oIn true) (mPeek 12) (mPeek 10))) (mVar 12))) (fm (mLst mNil)))) (mVar 20))) mNil)))
    (mSeq (mSet 6 (mBin oAdd (mPeek 6) (fm (mBin oMul (mPeek 11) (mPeek 13)))))
    (mSeq (mSet 7 (mBin oAdd (mPeek 7) (fm (mBin oMul (fm (mBin oMul (mPeek 11) (mPeek 13))) (mPeek 13)))))
    (mSeq (mSet 8 (mBin oAdd (mPeek 8) (mIfE (mTst (mBin oGt (mPeek 13) (mLit (.int 0)))) (mVar 11) (mLit (.int 0)))))
    (mSeq (mIf (mTst (mBin oGt (mPeek 11) (mLit (.int 0))))
      (mSeq (mSubV 9 (mPeek 13) (mLit (.int 1)))
    mNext)
      mNext)
    mNext))))))))
    (mSeq (mSet 14 (mLst (mCons (fm (mOwn F_expected (mCons (mVar 2) (mCons (mVar 3) mNil)))) (mCons (fm (mOwn F_expected_square (mCons (mVar 2) (mCons (mVar 3) mNil)))) (mCons (fm (mOwn F_spread (mCons (mVar 2) (mCons (mVar 3) mNil)))) mNil)))))
    (mSeq (mIf (mOrT (mNotT (mTru (fm (mOwn F__law_same (mCons (fm (mBin oIx (mPeek 14) (mLit (.int 0)))) (mCons (mTup (mCons (mVar 6) (mCons (mVar 4) mNil))) mNil)))))) (mOrT (mNotT (mTru (fm (mOwn F__law_same (mCons (fm (mBin oIx (mPeek 14) (mLit (.int 1)))) (mCons (mTup (mCons (mVar 7) (mCons (mVar 4) mNil))) mNil)))))) (mNotT (mTru (fm (mOwn F__law_same (mCons (fm (mBin oIx (mPeek 14) (mLit (.int 2)))) (mCons (mTup (mCons (fm (mBin oSub (fm (mBin oMul (mPeek 7) (mPeek 4))) (fm (mBin oMul (mPeek 6) (mPeek 6))))) (mCons (fm (mBin oMul (mPeek 4) (mPeek 4))) mNil))) mNil))))))))
      (mSeq (mRet (pm (mLit (.bl false))))
    mNext)
      mNext)
    (mSeq (mAsg (.tp (.cons (.nm 15) (.cons (.nm 16) .nil))) (fm (mOwn F_bounds (mCons (mVar 2) (mCons (mVar 3) mNil)))))
    (mSeq (mIf (mOrT (mTst (mBin oNe (fm (mLc (mWalk (fm (mBin oAdd (mPeek 14) (fm (mLst (mCons (mVar 15) (mCons (mVar 16) mNil))))))) (.nm 5) [5] (mNotT (mTru (fm (mOwn F__law_is_low (mCons (mVar 5) mNil))))) (mVar 5))) (fm (mLst mNil)))) (mTst (mBin oNe (fm (mBin oEq (fm (mBin oIx (mPeek 14) (mLit (.int 2)))) (mTup (mCons (mLit (.int 0)) (mCons (mLit (.int 1)) mNil))))) (fm (mBin oEq (fm (mCall gLen (mCons (mPeek 9) mNil))) (mLit (.int 1)))))))
      (mSeq (mRet (pm (mLit (.bl false))))
    mNext)
      mNext)
    (mSeq (mIf (mOrT (mNotT (mTru (fm (mOwn F__law_same (mCons (mVar 16) (mCons (mTup (mCons (fm (mCall gMin2 (mCons (mPeek 6) (mCons (mPeek 4) mNil)))) (mCons (mVar 4) mNil))) mNil)))))) (mNotT (mTru (fm (mOwn F__law_same (mCons (mVar 15) (mCons (mIfE (mTst (mBin oGt (mPeek 7) (mLit (.int 0)))) (mTup (mCons (fm (mBin oMul (mPeek 6) (mPeek 6))) (mCons (fm (mBin oMul (mPeek 4) (mPeek 7))) mNil))) (mTup (mCons (mLit (.int 0)) (mCons (mLit (.int 1)) mNil)))) mNil)))))))
      (mSeq (mRet (pm (mLit (.bl false))))
    mNext)
      mNext)
    (mSeq (mIf (mOrT (mTst (mBin oGt (fm (mBin oMul (fm (mBin oIx (mPeek 15) (mLit (.int 0)))) (mPeek 4))) (fm (mBin oMul (mPeek 8) (fm (mBin oIx (mPeek 15) (mLit (.int 1)))))))) (mTst (mBin oGt (fm (mBin oMul (mPeek 8) (fm (mBin oIx (mPeek 16) (mLit (.int 1)))))) (fm (mBin oMul (fm (mBin oIx (mPeek 16) (mLit (.int 0)))) (mPeek 4))))))
      (mSeq (mRet (pm (mLit (.bl false))))
    mNext)
      mNext)
    (mSeq (mIf (mTst (mBin oNe (fm (mBin oEq (fm (mBin oMul (fm (mBin oIx (mPeek 15) (mLit (.int 0)))) (mPeek 4))) (fm (mBin oMul (mPeek 8) (fm (mBin oIx (mPeek 15) (mLit (.int 1)))))))) (fm (mBin oLt (fm (mCall gLen (mCons (fm (mLc (mWalk (mPeek 9)) (.nm 22) [22] (mTst (mBin oGt (mPeek 22) (mLit (.int 0)))) (mVar 22))) mNil))) (mLit (.int 2))))))
      (mSeq (mRet (pm (mLit (.bl false))))
    mNext)
      mNext)
    (mSeq (mSet 17 (mLst (mCons (mLit .non) (mCons (fm (mBin oMul (mTup (mCons (mTup (mCons (mLit (.int 2)) (mCons (mLit (.int 4)) mNil))) mNil)) (mPeek 1))) (mCons (fm (mBin oMul (mTup (mCons (mTup (mCons (mLit (.int 1)) (mCons (mLit (.int 0)) mNil))) mNil)) (mPeek 1))) (mCons (fm (mBin oMul (fm (mLst (mCons (mTup (mCons (mLit (.int 1)) (mCons (mLit (.int 2)) mNil))) mNil))) (mPeek 1))) (mCons (fm (mBin oMul (mTup (mCons (mTup (mCons (mLit (.int 3)) (mCons (mLit (.int 2)) mNil))) mNil)) (mPeek 1))) mNil)))))))
    (mSeq (mFor (mWalk (fm (mLst (mCons (mLit (.glob "expected")) (mCons (mLit (.glob "expected_square")) (mCons (mLit (.glob "bounds")) (mCons (mLit (.glob "spread")) mNil))))))) (.nm 18)
      (mSeq (mIf (mOrT (mTst (mBin oNe (fm (mLc (mWalk (mPeek 17)) (.nm 23) [23] mYes (fm (mOwn F__law_told (mCons (mVar 18) (mCons (mTup (mCons (mVar 2) (mCons (mVar 23) mNil))) mNil)))))) (fm (mBin oMul (fm (mLst (mCons (mLit (.str "none")) mNil))) (mLit (.int 5)))))) (mOrT (mTst (mBin oNe (fm (mOwn F__law_told (mCons (mVar 18) (mCons (mTup (mCons (mLit .non) (mCons (mVar 3) mNil))) mNil)))) (mLit (.str "sum")))) (mTst (mBin oNe (fm (mOwn F__law_told (mCons (mVar 18) (mCons (mTup (mCons (mTup (mCons (mTup (mCons (mTup (mCons (mTup (mCons (mVar 1) (mCons (mLit (.int 1)) mNil))) mNil)) (mCons (mLit (.int 1)) mNil))) mNil)) (mCons (mVar 3) mNil))) mNil)))) (mLit (.str "none"))))))
      (mSeq (mRet (pm (mLit (.bl false))))
    mNext)
      mNext)
    mNext))
    (mSeq (mRet (pm (mLit (.bl true))))
    mNext))))))))))))))))))
def F__law_case : FN := bodyF 24 1 m__law_case
def m_law : SM := (mSeq (mSet 1 (mCall gTuple (mCons (fm (mLc (mRng rngB1 (mCons (mLit (.int 40)) mNil)) (.nm 6) [6] mYes (mTup (mCons (mTup (mCons (mTup (mCons (mVar 6) (mCons (mLit (.int 1)) mNil))) mNil)) (mCons (mLit (.int 1)) mNil))))) mNil)))
    (mSeq (mIf (mOrT (mTst (mBin oNe (fm (mOwn F_expected (mCons (mVar 1) (mCons (fm (mBin oMul (mTup (mCons (mTup (mCons (mLit (.int 1)) (mCons (mLit (.int 2)) mNil))) mNil)) (mLit (.int 40)))) mNil)))) (mTup (mCons (mLit (.int 20)) (mCons (mLit (.int 1)) mNil))))) (mOrT (mTst (mBin oNe (fm (mOwn F_spread (mCons (mVar 1) (mCons (fm (mBin oMul (mTup (mCons (mTup (mCons (mLit (.int 1)) (mCons (mLit (.int 2)) mNil))) mNil)) (mLit (.int 40)))) mNil)))) (mTup (mCons (mLit (.int 10)) (mCons (mLit (.int 1)) mNil))))) (mOrT (mTst (mBin oNe (fm (mOwn F_bounds (mCons (mVar 1) (mCons (fm (mBin oMul (mTup (mCons (mTup (mCons (mLit (.int 1)) (mCons (mLit (.int 2)) mNil))) mNil)) (mLit (.int 40)))) mNil)))) (mTup (mCons (mTup (mCons (mLit (.int 40)) (mCons (mLit (.int 41)) mNil))) (mCons (mTup (mCons (mLit (.int 1)) (mCons (mLit (.int 1)) mNil))) mNil))))) (mTst (mBin oNe (mLit (.int 200)) (mLit (.int 200)))))))
      (mSeq (mRet (pm (mLit (.bl false))))
    mNext)
      mNext)
    (mSeq (mSet 2 (mLst mNil))
    (mSeq (mFor (mRng rngB1 (mCons (mLit (.int 21)) mNil)) (.nm 3)
      (mSeq (mSet 2 (mBin oAdd (mPeek 2) (fm (mLc (mRng rngB1 (mCons (mPeek 3) mNil)) (.nm 7) [7] mYes (mTup (mCons (mTup (mCons (mTup (mCons (mVar 7) (mCons (mLit (.int 1)) mNil))) (mCons (mTup (mCons (mVar 3) (mCons (mLit (.int 1)) mNil))) mNil))) (mCons (mLit (.int 1)) mNil)))))))
    mNext))
    (mSeq (mSet 4 (mCall gTuple (mCons (fm (mCall gSorted (mCons (mPeek 2) mNil))) mNil)))
    (mSeq (mIf (mOrT (mTst (mBin oNe (fm (mOwn F__law_told (mCons (mLit (.glob "expected")) (mCons (mTup (mCons (mVar 4) (mCons (fm (mBin oMul (mTup (mCons (mTup (mCons (mLit (.int 1)) (mCons (mLit (.int 2)) mNil))) mNil)) (mLit (.int 21)))) mNil))) mNil)))) (mLit (.str "far")))) (mOrT (mTst (mBin oNe (fm (mOwn F_expected (mCons (fm (mSl (mPeek 4) mNoPart (mPart (mLit (.int 200))))) (mCons (fm (mBin oMul (mTup (mCons (mTup (mCons (mLit (.int 1)) (mCons (mLit (.int 2)) mNil))) mNil)) (mLit (.int 21)))) mNil)))) (mTup (mCons (mLit (.int 50)) (mCons (mLit (.int 1)) mNil))))) (mOrT (mTst (mBin oNe (fm (mOwn F_bounds (mCons (mTup mNil) (mCons (mTup mNil) mNil)))) (mTup (mCons (mTup (mCons (mLit (.int 0)) (mCons (mLit (.int 1)) mNil))) (mCons (mTup (mCons (mLit (.int 0)) (mCons (mLit (.int 1)) mNil))) mNil))))) (mTst (mBin oNe (fm (mOwn F_bounds (mCons (mTup (mCons (mTup (mCons (mTup mNil) (mCons (mLit (.int 3)) mNil))) mNil)) (mCons (mTup mNil) mNil)))) (mTup (mCons (mTup (mCons (mLit (.int 1)) (mCons (mLit (.int 1)) mNil))) (mCons (mTup (mCons (mLit (.int 1)) (mCons (mLit (.int 1)) mNil))) mNil))))))))
      (mSeq (mRet (pm (mLit (.bl false))))
    mNext)
      mNext)
    (mSeq (mFor (mRng rngB1 (mCons (fm (mCall gMin2 (mCons (fm (mCall gMax2 (mCons (fm (mCall gLen (mCons (mPeek 0) mNil))) (mCons (mLit (.int 1)) mNil)))) (mCons (mLit (.int 5)) mNil)))) mNil)) (.nm 5)
      (mSeq (mIf (mNotT (mTru (fm (mOwn F__law_case (mCons (rm (mOwn F__law_bag (mCons (mVar 0) (mCons (mVar 5) mNil)))) mNil)))))
      (mSeq (mRet (pm (mLit (.bl false))))
    mNext)
      mNext)
    mNext))
    (mSeq (mRet (pm (mLit (.bl true))))
    mNext))))))))
def F_law : FN := bodyF 8 1 m_law
structure Txt (K : PySem.W.Frag) (mg : Str → Option Value) (t_MOST_PRODUCTS t_MOST_ROWS t_MOST_SPREAD : Tok) : Prop where
  z_all : mg "all" = none
  z_bool : mg "bool" = none
  z_dict : mg "dict" = none
  z_int : mg "int" = none
  z_isinstance : mg "isinstance" = none
  z_len : mg "len" = none
  z_max : mg "max" = none
  z_min : mg "min" = none
  z_range : mg "range" = none
  z_sorted : mg "sorted" = none
  z_sum : mg "sum" = none
  z_tuple : mg "tuple" = none
  z_zip : mg "zip" = none
  c_MOST_PRODUCTS : mg "MOST_PRODUCTS" = some (.int 2000 t_MOST_PRODUCTS)
  c_MOST_ROWS : mg "MOST_ROWS" = some (.int 40 t_MOST_ROWS)
  c_MOST_SPREAD : mg "MOST_SPREAD" = some (.int 200 t_MOST_SPREAD)
  x_BadSum : ExcC K mg "BadSum"
  x_NoSuch : ExcC K mg "NoSuch"
  x_TooFar : ExcC K mg "TooFar"
  k_TooFar : ∃ C, mg "TooFar" = some (.ref C)
  k_NoSuch : ∃ C, mg "NoSuch" = some (.ref C)
  k_BadPaper : ∃ C, mg "BadPaper" = some (.ref C)
  k_BadSum : ∃ C, mg "BadSum" = some (.ref C)
  k_BadQuestion : ∃ C, mg "BadQuestion" = some (.ref C)
  k_BadTables : ∃ C, mg "BadTables" = some (.ref C)
  sub : SubsOk K mg subs
section
variable {P : Program} {w : World} {K : PySem.W.Frag} {mg : Str → Option Value} {base : Heap} {t_MOST_PRODUCTS t_MOST_ROWS t_MOST_SPREAD : Tok} {a : Addr} {fd : FuncData}
theorem sc_is_integer : FnScope ["value", "low", "high"] ["value", "low", "high"] (defScope s_is_integer) := ⟨rfl, rfl, rfl, by decide +kernel, rfl, by decide +kernel, by decide +kernel⟩
theorem cal_is_integer (T : Txt K mg t_MOST_PRODUCTS t_MOST_ROWS t_MOST_SPREAD)  (Fu : Fun K "is_integer" "is_integer" s_is_integer a fd) (hm : mg "is_integer" = some (.ref a)) : Cal P w K mg base 1 "is_integer" 3 F_is_integer := by
  refine ⟨⟨a, fd, ["value", "low", "high"], fn_ok (k := 0) Fu sc_is_integer fun cdv A outer s H E hr => ?_, hm, Fu.kp, Fu.binds fun _ _ _ _ _ _ us hl => match us, hl with | [_, _, _], _ => rfl⟩⟩
  have hu := hr.units
  have hu7 := Room.units70 hr
  have nd := sc_is_integer.nd
  exact (simSs_cons (simS_ret (SimE.f (sim_and (SimF.s (f_b call_gIsi T.z_isinstance (aw_c (w_v 0) (aw_c (SimE.w (e_ty "int" T.z_int)) simAW_nil)))) (sim_and (sim_not (SimF.s (f_b call_gIsi T.z_isinstance (aw_c (w_v 0) (aw_c (SimE.w (e_ty "bool" T.z_bool)) simAW_nil))))) (sim_one (e_ch (op_oLe hu) (op_oLe hu) (e_v 1) (e_v 0) (e_v 2)))))))
    simSs_nil)
theorem sc_are_ascending : FnScope ["values", "one", "other"] ["values"] (defScope s_are_ascending) := ⟨rfl, rfl, rfl, by decide +kernel, rfl, by decide +kernel, by decide +kernel⟩
theorem cal_are_ascending (T : Txt K mg t_MOST_PRODUCTS t_MOST_ROWS t_MOST_SPREAD)  (Fu : Fun K "are_ascending" "are_ascending" s_are_ascending a fd) (hm : mg "are_ascending" = some (.ref a)) : Cal P w K mg base 1 "are_ascending" 1 F_are_ascending := by
  refine ⟨⟨a, fd, ["values"], fn_ok (k := 0) Fu sc_are_ascending fun cdv A outer s H E hr => ?_, hm, Fu.kp, Fu.binds fun _ _ _ _ _ _ us hl => match us, hl with | [_], _ => rfl⟩⟩
  have hu := hr.units
  have hu7 := Room.units70 hr
  have nd := sc_are_ascending.nd
  exact (simSs_cons (simS_ret (f_b (call_gAll rfl) T.z_all (aw_c (SimF.w (f_lc [("one", 1), ("other", 2)] nd (i_zip afE T.z_zip (SimAW.q (aw_c (w_v 0) (aw_c (SimF.w (sim_sl (w_v 0) (simo_some (SimE.w sim_int)) simo_none)) simAW_nil)))) (fun _ _ _ _ _ => (g_t (gs_c (g_n 1 nd) (gs_c (g_n 2 nd) gs_0)))) (fun _ _ _ _ _ => simTs_nil) (fun _ _ _ _ _ => (SimF.s (f_cmp (op_oLt hu) (w_v 1) (w_v 2)))))) simAW_nil)))
    simSs_nil)
theorem sc_are_counted : FnScope ["value", "pair"] ["value"] (defScope s_are_counted) := ⟨rfl, rfl, rfl, by decide +kernel, rfl, by decide +kernel, by decide +kernel⟩
theorem cal_are_counted (T : Txt K mg t_MOST_PRODUCTS t_MOST_ROWS t_MOST_SPREAD)  (Fu : Fun K "are_counted" "are_counted" s_are_counted a fd) (hm : mg "are_counted" = some (.ref a)) : Cal P w K mg base 1 "are_counted" 1 F_are_counted := by
  refine ⟨⟨a, fd, ["value"], fn_ok (k := 0) Fu sc_are_counted fun cdv A outer s H E hr => ?_, hm, Fu.kp, Fu.binds fun _ _ _ _ _ _ us hl => match us, hl with | [_], _ => rfl⟩⟩
  have hu := hr.units
  have hu7 := Room.units70 hr
  have nd := sc_are_counted.nd
  exact (simSs_cons (simS_if (simT_not (t_p (SimF.w (f_b call_gIsi T.z_isinstance (aw_c (w_v 0) (aw_c (SimE.w (e_ty "tuple" T.z_tuple)) simAW_nil))))))
      (simSs_cons (simS_ret (SimE.f sim_bl))
    simSs_nil)
      simSs_nil)
    (simSs_cons (s_for (passes_of rfl) (simI_e afG (SimE.q afG (e_v 0))) (g_n 1 nd)
      (simSs_cons (simS_if (SimPW.t (simPW_or (simT_not (t_p (SimF.w (f_b call_gIsi T.z_isinstance (aw_c (w_v 1) (aw_c (SimE.w (e_ty "tuple" T.z_tuple)) simAW_nil)))))) (simPW_or1 (t_cmp (op_oNe hu) (SimF.w (f_b call_gLen T.z_len (aw_c (w_v 1) simAW_nil))) (SimE.w sim_int)))))
      (simSs_cons (simS_ret (SimE.f sim_bl))
    simSs_nil)
      simSs_nil)
    (simSs_cons (simS_if (SimPW.t (simPW_or (simT_not (t_p (SimF.w (f_b call_gIsi T.z_isinstance (aw_c (SimF.w (f_ix hu (w_v 1) (SimE.w sim_int))) (aw_c (SimE.w (e_ty "int" T.z_int)) simAW_nil)))))) (simPW_or (t_p (SimF.w (f_b call_gIsi T.z_isinstance (aw_c (SimF.w (f_ix hu (w_v 1) (SimE.w sim_int))) (aw_c (SimE.w (e_ty "bool" T.z_bool)) simAW_nil))))) (simPW_or1 (t_cmp (op_oLt hu) (SimF.w (f_ix hu (w_v 1) (SimE.w sim_int))) (SimE.w sim_int))))))
      (simSs_cons (simS_ret (SimE.f sim_bl))
    simSs_nil)
      simSs_nil)
    simSs_nil)))
    (simSs_cons (simS_ret (SimE.f sim_bl))
    simSs_nil)))
theorem sc_common : FnScope ["a", "b"] ["a", "b"] (defScope s_common) := ⟨rfl, rfl, rfl, by decide +kernel, rfl, by decide +kernel, by decide +kernel⟩
theorem cal_common (T : Txt K mg t_MOST_PRODUCTS t_MOST_ROWS t_MOST_SPREAD)  (Fu : Fun K "common" "common" s_common a fd) (hm : mg "common" = some (.ref a)) : Cal P w K mg base 1 "common" 2 F_common := by
  refine ⟨⟨a, fd, ["a", "b"], fn_ok (k := 0) Fu sc_common fun cdv A outer s H E hr => ?_, hm, Fu.kp, Fu.binds fun _ _ _ _ _ _ us hl => match us, hl with | [_, _], _ => rfl⟩⟩
  have hu := hr.units
  have hu7 := Room.units70 hr
  have nd := sc_common.nd
  exact (simSs_cons (simS_while (passes_of rfl) (t_cmp (op_oNe hu) (w_v 1) (SimE.w sim_int))
      (simSs_cons (s_par 0 1 nd (a_c (e_v 1) (a_c (SimF.s (f_op op_oMod (w_v 0) (w_v 1))) simA_nil)))
    simSs_nil))
    (simSs_cons (s_rv 0)
    simSs_nil))
theorem sc__law_bag : FnScope ["script", "k", "cell"] ["script", "k"] (defScope s__law_bag) := ⟨rfl, rfl, rfl, by decide +kernel, rfl, by decide +kernel, by decide +kernel⟩
theorem cal__law_bag (T : Txt K mg t_MOST_PRODUCTS t_MOST_ROWS t_MOST_SPREAD)  (Fu : Fun K "_law_bag" "_law_bag" s__law_bag a fd) (hm : mg "_law_bag" = some (.ref a)) : Cal P w K mg base 1 "_law_bag" 2 F__law_bag := by
  refine ⟨⟨a, fd, ["script", "k"], fn_ok (k := 0) Fu sc__law_bag fun cdv A outer s H E hr => ?_, hm, Fu.kp, Fu.binds fun _ _ _ _ _ _ us hl => match us, hl with | [_, _], _ => rfl⟩⟩
  have hu := hr.units
  have hu7 := Room.units70 hr
  have nd := sc__law_bag.nd
  exact (simSs_cons (s_set 2 nd (SimE.f sim_int))
    (simSs_cons (simS_if (t_cmp (op_oLt hu) (w_v 1) (SimF.w (f_b call_gLen T.z_len (aw_c (w_v 0) simAW_nil))))
      (simSs_cons (s_set 2 nd (f_t call_gInt T.z_int (aw_c (SimF.w (f_ix hu (w_v 0) (w_v 1))) simAW_nil)))
    simSs_nil)
      simSs_nil)
    (simSs_cons (simS_if (t_cmp (op_oGe hu) (w_v 2) (SimF.w (f_op op_oPow (SimE.w sim_int) (SimE.w sim_int))))
      (simSs_cons (simS_ret (sim_lst (a_c (e_v 2) (a_c (e_v 2) (a_c (e_v 1) simA_nil)))))
    simSs_nil)
      simSs_nil)
    (simSs_cons (simS_ret (sim_lst (a_c sim_int (a_c (e_v 2) (a_c (e_v 1) simA_nil)))))
    simSs_nil))))
theorem sc__law_draw : FnScope ["bag", "many", "seed", "rest"] ["bag", "many"] (defScope s__law_draw) := ⟨rfl, rfl, rfl, by decide +kernel, rfl, by decide +kernel, by decide +kernel⟩
theorem cal__law_draw (T : Txt K mg t_MOST_PRODUCTS t_MOST_ROWS t_MOST_SPREAD)  (Fu : Fun K "_law_draw" "_law_draw" s__law_draw a fd) (hm : mg "_law_draw" = some (.ref a)) : Cal P w K mg base 1 "_law_draw" 2 F__law_draw := by
  refine ⟨⟨a, fd, ["bag", "many"], fn_ok (k := 0) Fu sc__law_draw fun cdv A outer s H E hr => ?_, hm, Fu.kp, Fu.binds fun _ _ _ _ _ _ us hl => match us, hl with | [_, _], _ => rfl⟩⟩
  have hu := hr.units
  have hu7 := Room.units70 hr
  have nd := sc__law_draw.nd
  exact (simSs_cons (simS_if (t_cmp (op_oEq hu) (SimF.w (f_ix hu (w_v 0) (SimE.w sim_int))) (SimE.w sim_int))
      (simSs_cons (s_set 2 nd (f_op op_oMod (SimF.w (f_t call_gInt T.z_int (aw_c (SimF.w (f_op op_oAdd (SimF.w (f_op op_oAdd (SimF.w (f_op op_oMul (SimF.w (f_ix hu (w_v 0) (SimE.w sim_int))) (SimE.w sim_int))) (SimF.w (f_op op_oMul (SimF.w (f_ix hu (w_v 0) (SimE.w sim_int))) (SimE.w sim_int))))) (SimE.w sim_int))) simAW_nil))) (SimE.w sim_int)))
    (simSs_cons (s_sub 0 hu (SimE.w sim_int) (SimF.s (f_op op_oAdd (SimF.w (f_op op_oMul (w_v 2) (SimE.w sim_int))) (SimF.w (f_op op_oMod (SimF.w (f_t call_gInt T.z_int (aw_c (SimF.w (f_op op_oAdd (SimF.w (f_op op_oMul (w_v 2) (w_v 2))) (SimF.w (f_op op_oMul (SimF.w (f_ix hu (w_v 0) (SimE.w sim_int))) (SimE.w sim_int))))) simAW_nil))) (SimE.w sim_int))))))
    (simSs_cons (s_sub 0 hu (SimE.w sim_int) (e_v 2))
    simSs_nil)))
      simSs_nil)
    (simSs_cons (s_set 3 nd (f_ix hu (w_v 0) (SimE.w sim_int)))
    (simSs_cons (s_sub 0 hu (SimE.w sim_int) (SimF.s (f_op op_oDiv (w_v 3) (w_v 1))))
    (simSs_cons (simS_ret (f_op op_oMod (SimF.w (f_t call_gInt T.z_int (aw_c (w_v 3) simAW_nil))) (w_v 1)))
    simSs_nil))))
theorem sc__law_all : FnScope ["many", "found", "row", "one"] ["many"] (defScope s__law_all) := ⟨rfl, rfl, rfl, by decide +kernel, rfl, by decide +kernel, by decide +kernel⟩
theorem cal__law_all (T : Txt K mg t_MOST_PRODUCTS t_MOST_ROWS t_MOST_SPREAD)  (Fu : Fun K "_law_all" "_law_all" s__law_all a fd) (hm : mg "_law_all" = some (.ref a)) : Cal P w K mg base 1 "_law_all" 1 F__law_all := by
  refine ⟨⟨a, fd, ["many"], fn_ok (k := 0) Fu sc__law_all fun cdv A outer s H E hr => ?_, hm, Fu.kp, Fu.binds fun _ _ _ _ _ _ us hl => match us, hl with | [_], _ => rfl⟩⟩
  have hu := hr.units
  have hu7 := Room.units70 hr
  have nd := sc__law_all.nd
  exact (simSs_cons (s_set 1 nd (sim_lst (a_c (sim_tup simA_nil) simA_nil)))
    (simSs_cons (s_for (passes_of rfl) (i_r1 T.z_range (aw_c (w_v 0) simAW_nil)) (g_n 2 nd)
      (simSs_cons (s_set 1 nd (f_op op_oAdd (w_v 1) (SimF.w (f_lc [("one", 3)] nd (simI_e afE (SimW.q (w_v 1))) (fun _ _ _ _ _ => (g_n 3 nd)) (fun _ _ _ _ _ => simTs_nil) (fun _ _ _ _ _ => (SimF.s (f_op op_oAdd (w_v 3) (SimE.w (sim_tup (a_c (e_v 2) simA_nil))))))))))
    simSs_nil))
    (simSs_cons (s_rv 1)
    simSs_nil)))
theorem sc__law_same : FnScope ["one", "other"] ["one", "other"] (defScope s__law_same) := ⟨rfl, rfl, rfl, by decide +kernel, rfl, by decide +kernel, by decide +kernel⟩
theorem cal__law_same (T : Txt K mg t_MOST_PRODUCTS t_MOST_ROWS t_MOST_SPREAD)  (Fu : Fun K "_law_same" "_law_same" s__law_same a fd) (hm : mg "_law_same" = some (.ref a)) : Cal P w K mg base 1 "_law_same" 2 F__law_same := by
  refine ⟨⟨a, fd, ["one", "other"], fn_ok (k := 0) Fu sc__law_same fun cdv A outer s H E hr => ?_, hm, Fu.kp, Fu.binds fun _ _ _ _ _ _ us hl => match us, hl with | [_, _], _ => rfl⟩⟩
  have hu := hr.units
  have hu7 := Room.units70 hr
  have nd := sc__law_same.nd
  exact (simSs_cons (simS_ret (f_cmp (op_oEq hu) (SimF.w (f_op op_oMul (SimF.w (f_ix hu (w_v 0) (SimE.w sim_int))) (SimF.w (f_ix hu (w_v 1) (SimE.w sim_int))))) (SimF.w (f_op op_oMul (SimF.w (f_ix hu (w_v 0) (SimE.w sim_int))) (SimF.w (f_ix hu (w_v 1) (SimE.w sim_int)))))))
    simSs_nil)
theorem sc__law_is_low : FnScope ["part", "a", "b"] ["part"] (defScope s__law_is_low) := ⟨rfl, rfl, rfl, by decide +kernel, rfl, by decide +kernel, by decide +kernel⟩
theorem cal__law_is_low (T : Txt K mg t_MOST_PRODUCTS t_MOST_ROWS t_MOST_SPREAD)  (Fu : Fun K "_law_is_low" "_law_is_low" s__law_is_low a fd) (hm : mg "_law_is_low" = some (.ref a)) : Cal P w K mg base 1 "_law_is_low" 1 F__law_is_low := by
  refine ⟨⟨a, fd, ["part"], fn_ok (k := 0) Fu sc__law_is_low fun cdv A outer s H E hr => ?_, hm, Fu.kp, Fu.binds fun _ _ _ _ _ _ us hl => match us, hl with | [_], _ => rfl⟩⟩
  have hu := hr.units
  have hu7 := Room.units70 hr
  have nd := sc__law_is_low.nd
  exact (simSs_cons (s_asg (e_v 0) (g_t (gs_c (g_n 1 nd) (gs_c (g_n 2 nd) gs_0))))
    (simSs_cons (simS_while (passes_of rfl) (t_cmp (op_oGt hu) (w_v 2) (SimE.w sim_int))
      (simSs_cons (s_par 1 2 nd (a_c (e_v 2) (a_c (SimF.s (f_op op_oMod (w_v 1) (w_v 2))) simA_nil)))
    simSs_nil))
    (simSs_cons (simS_ret (SimE.f (sim_and (SimF.s (f_cmp (op_oGt hu) (SimF.w (f_ix hu (w_v 0) (SimE.w sim_int))) (SimE.w sim_int))) (sim_one (SimF.s (f_cmp (op_oEq hu) (w_v 1) (SimE.w sim_int)))))))
    simSs_nil)))
theorem sc_is_sum : FnScope ["value", "many", "product", "_", "row"] ["value", "many"] (defScope s_is_sum) := ⟨rfl, rfl, rfl, by decide +kernel, rfl, by decide +kernel, by decide +kernel⟩
theorem cal_is_sum (T : Txt K mg t_MOST_PRODUCTS t_MOST_ROWS t_MOST_SPREAD) (C_is_integer : Cal P w K mg base 1 "is_integer" 3 F_is_integer) (C_are_ascending : Cal P w K mg base 1 "are_ascending" 1 F_are_ascending) (C_are_counted : Cal P w K mg base 1 "are_counted" 1 F_are_counted) (Fu : Fun K "is_sum" "is_sum" s_is_sum a fd) (hm : mg "is_sum" = some (.ref a)) : Cal P w K mg base 2 "is_sum" 2 F_is_sum := by
  refine ⟨⟨a, fd, ["value", "many"], fn_ok (k := 1) Fu sc_is_sum fun cdv A outer s H E hr => ?_, hm, Fu.kp, Fu.binds fun _ _ _ _ _ _ us hl => match us, hl with | [_, _], _ => rfl⟩⟩
  have hu := hr.units
  have hu7 := Room.units70 hr
  have nd := sc_is_sum.nd
  exact (simSs_cons (simS_if (SimPW.t (simPW_or (simT_not (t_p (SimF.w (f_own hr C_is_integer (a_c (e_v 1) (a_c sim_int (a_c (e_gi T.c_MOST_ROWS) simA_nil))))))) (simPW_or (simT_not (t_p (SimF.w (f_own hr C_are_counted (a_c (e_v 0) simA_nil))))) (simPW_or1 (t_cmp (op_oGt hu) (SimF.w (f_b call_gLen T.z_len (aw_c (w_v 0) simAW_nil))) (SimE.w (e_gi T.c_MOST_PRODUCTS)))))))
      (simSs_cons (simS_ret (SimE.f sim_bl))
    simSs_nil)
      simSs_nil)
    (simSs_cons (s_for (passes_of rfl) (simI_e afG (SimE.q afG (e_v 0))) (g_t (gs_c (g_n 2 nd) (gs_c (g_n 3 nd) gs_0)))
      (simSs_cons (simS_if (SimPW.t (simPW_or (simT_not (t_p (SimF.w (f_own hr C_are_counted (a_c (e_v 2) simA_nil))))) (simPW_or1 (simT_not (t_p (SimF.w (f_b (call_gAll rfl) T.z_all (aw_c (SimF.w (f_lc [("row", 4), ("_", 3)] nd (simI_e afE (SimW.q (w_v 2))) (fun _ _ _ _ _ => (g_t (gs_c (g_n 4 nd) (gs_c (g_n 3 nd) gs_0)))) (fun _ _ _ _ _ => simTs_nil) (fun _ _ _ _ _ => (SimF.s (f_own hr C_is_integer (a_c (e_v 4) (a_c sim_int (a_c (SimF.s (f_op op_oSub (w_v 1) (SimE.w sim_int))) simA_nil)))))))) simAW_nil))))))))
      (simSs_cons (simS_ret (SimE.f sim_bl))
    simSs_nil)
      simSs_nil)
    (simSs_cons (simS_if (simT_not (t_p (SimF.w (f_own hr C_are_ascending (a_c (SimF.s (f_lc [("row", 4), ("_", 3)] nd (simI_e afE (SimW.q (w_v 2))) (fun _ _ _ _ _ => (g_t (gs_c (g_n 4 nd) (gs_c (g_n 3 nd) gs_0)))) (fun _ _ _ _ _ => simTs_nil) (fun _ _ _ _ _ => (e_v 4)))) simA_nil)))))
      (simSs_cons (simS_ret (SimE.f sim_bl))
    simSs_nil)
      simSs_nil)
    simSs_nil)))
    (simSs_cons (simS_ret (f_own hr C_are_ascending (a_c (SimF.s (f_lc [("product", 2), ("_", 3)] nd (simI_e afE (SimW.q (w_v 0))) (fun _ _ _ _ _ => (g_t (gs_c (g_n 2 nd) (gs_c (g_n 3 nd) gs_0)))) (fun _ _ _ _ _ => simTs_nil) (fun _ _ _ _ _ => (e_v 2)))) simA_nil)))
    simSs_nil)))
theorem sc_lowest : FnScope ["p", "q", "divisor"] ["p", "q"] (defScope s_lowest) := ⟨rfl, rfl, rfl, by decide +kernel, rfl, by decide +kernel, by decide +kernel⟩
theorem cal_lowest (T : Txt K mg t_MOST_PRODUCTS t_MOST_ROWS t_MOST_SPREAD) (C_common : Cal P w K mg base 1 "common" 2 F_common) (Fu : Fun K "lowest" "lowest" s_lowest a fd) (hm : mg "lowest" = some (.ref a)) : Cal P w K mg base 2 "lowest" 2 F_lowest := by
  refine ⟨⟨a, fd, ["p", "q"], fn_ok (k := 1) Fu sc_lowest fun cdv A outer s H E hr => ?_, hm, Fu.kp, Fu.binds fun _ _ _ _ _ _ us hl => match us, hl with | [_, _], _ => rfl⟩⟩
  have hu := hr.units
  have hu7 := Room.units70 hr
  have nd := sc_lowest.nd
  exact (simSs_cons (s_set 2 nd (f_own hr C_common (a_c (e_v 0) (a_c (e_v 1) simA_nil))))
    (simSs_cons (simS_ret (SimE.f (sim_tup (a_c (SimF.s (f_op op_oDiv (w_v 0) (w_v 2))) (a_c (SimF.s (f_op op_oDiv (w_v 1) (w_v 2))) simA_nil)))))
    simSs_nil))
theorem sc_is_part : FnScope ["value"] ["value"] (defScope s_is_part) := ⟨rfl, rfl, rfl, by decide +kernel, rfl, by decide +kernel, by decide +kernel⟩
theorem cal_is_part (T : Txt K mg t_MOST_PRODUCTS t_MOST_ROWS t_MOST_SPREAD) (C_is_integer : Cal P w K mg base 1 "is_integer" 3 F_is_integer) (C_common : Cal P w K mg base 1 "common" 2 F_common) (Fu : Fun K "is_part" "is_part" s_is_part a fd) (hm : mg "is_part" = some (.ref a)) : Cal P w K mg base 2 "is_part" 1 F_is_part := by
  refine ⟨⟨a, fd, ["value"], fn_ok (k := 1) Fu sc_is_part fun cdv A outer s H E hr => ?_, hm, Fu.kp, Fu.binds fun _ _ _ _ _ _ us hl => match us, hl with | [_], _ => rfl⟩⟩
  have hu := hr.units
  have hu7 := Room.units70 hr
  have nd := sc_is_part.nd
  exact (simSs_cons (simS_if (SimPW.t (simPW_or (simT_not (t_p (SimF.w (f_b call_gIsi T.z_isinstance (aw_c (w_v 0) (aw_c (SimE.w (e_ty "tuple" T.z_tuple)) simAW_nil)))))) (simPW_or1 (t_cmp (op_oNe hu) (SimF.w (f_b call_gLen T.z_len (aw_c (w_v 0) simAW_nil))) (SimE.w sim_int)))))
      (simSs_cons (simS_ret (SimE.f sim_bl))
    simSs_nil)
      simSs_nil)
    (simSs_cons (simS_if (SimPW.t (simPW_or (simT_not (t_p (SimF.w (f_own hr C_is_integer (a_c (SimF.s (f_ix hu (w_v 0) (SimE.w sim_int))) (a_c sim_int (a_c (SimF.s (f_op op_oSub (SimF.w (f_op op_oPow (SimE.w sim_int) (SimE.w sim_int))) (SimE.w sim_int))) simA_nil))))))) (simPW_or1 (simT_not (t_p (SimF.w (f_own hr C_is_integer (a_c (SimF.s (f_ix hu (w_v 0) (SimE.w sim_int))) (a_c sim_int (a_c (SimF.s (f_ix hu (w_v 0) (SimE.w sim_int))) simA_nil))))))))))
      (simSs_cons (simS_ret (SimE.f sim_bl))
    simSs_nil)
      simSs_nil)
    (simSs_cons (simS_ret (f_cmp (op_oEq hu) (SimF.w (f_own hr C_common (a_c (SimF.s (f_ix hu (w_v 0) (SimE.w sim_int))) (a_c (SimF.s (f_ix hu (w_v 0) (SimE.w sim_int))) simA_nil)))) (SimE.w sim_int)))
    simSs_nil)))
theorem sc__law_one : FnScope ["bag", "some"] ["bag", "some"] (defScope s__law_one) := ⟨rfl, rfl, rfl, by decide +kernel, rfl, by decide +kernel, by decide +kernel⟩
theorem cal__law_one (T : Txt K mg t_MOST_PRODUCTS t_MOST_ROWS t_MOST_SPREAD) (C__law_draw : Cal P w K mg base 1 "_law_draw" 2 F__law_draw) (Fu : Fun K "_law_one" "_law_one" s__law_one a fd) (hm : mg "_law_one" = some (.ref a)) : Cal P w K mg base 2 "_law_one" 2 F__law_one := by
  refine ⟨⟨a, fd, ["bag", "some"], fn_ok (k := 1) Fu sc__law_one fun cdv A outer s H E hr => ?_, hm, Fu.kp, Fu.binds fun _ _ _ _ _ _ us hl => match us, hl with | [_, _], _ => rfl⟩⟩
  have hu := hr.units
  have hu7 := Room.units70 hr
  have nd := sc__law_one.nd
  exact (simSs_cons (simS_ret (f_ix hu (w_v 1) (SimF.w (f_own hr C__law_draw (a_c (e_v 0) (a_c (SimF.s (f_b call_gLen T.z_len (aw_c (w_v 1) simAW_nil))) simA_nil))))))
    simSs_nil)
theorem sc__law_sum : FnScope ["bag", "many", "found", "turn", "product", "k"] ["bag", "many"] (defScope s__law_sum) := ⟨rfl, rfl, rfl, by decide +kernel, rfl, by decide +kernel, by decide +kernel⟩
theorem cal__law_sum (T : Txt K mg t_MOST_PRODUCTS t_MOST_ROWS t_MOST_SPREAD) (C__law_draw : Cal P w K mg base 1 "_law_draw" 2 F__law_draw) (Fu : Fun K "_law_sum" "_law_sum" s__law_sum a fd) (hm : mg "_law_sum" = some (.ref a)) : Cal P w K mg base 2 "_law_sum" 2 F__law_sum := by
  refine ⟨⟨a, fd, ["bag", "many"], fn_ok (k := 1) Fu sc__law_sum fun cdv A outer s H E hr => ?_, hm, Fu.kp, Fu.binds fun _ _ _ _ _ _ us hl => match us, hl with | [_, _], _ => rfl⟩⟩
  have hu := hr.units
  have hu7 := Room.units70 hr
  have nd := sc__law_sum.nd
  exact (simSs_cons (s_set 2 nd sim_dct0)
    (simSs_cons (s_for (passes_of rfl) (i_r1 T.z_range (aw_c (SimF.w (f_own hr C__law_draw (a_c (e_v 0) (a_c sim_int simA_nil)))) simAW_nil)) (g_n 3 nd)
      (simSs_cons (s_set 4 nd sim_dct0)
    (simSs_cons (s_for (passes_of rfl) (i_r1 T.z_range (aw_c (SimF.w (f_own hr C__law_draw (a_c (e_v 0) (a_c sim_int simA_nil)))) simAW_nil)) (g_n 5 nd)
      (simSs_cons (s_sub 4 hu (SimF.w (f_own hr C__law_draw (a_c (e_v 0) (a_c (e_v 1) simA_nil)))) (SimF.s (f_op op_oAdd (SimE.w sim_int) (SimF.w (f_own hr C__law_draw (a_c (e_v 0) (a_c sim_int simA_nil)))))))
    simSs_nil))
    (simSs_cons (s_sub 2 hu (SimF.w (f_t call_gTuple T.z_tuple (aw_c (SimF.w (f_si hu T.z_sorted (w_v 4))) simAW_nil))) (SimF.s (f_op op_oAdd (SimE.w sim_int) (SimF.w (f_own hr C__law_draw (a_c (e_v 0) (a_c sim_int simA_nil)))))))
    simSs_nil))))
    (simSs_cons (simS_ret (f_t call_gTuple T.z_tuple (aw_c (SimF.w (f_si hu T.z_sorted (w_v 2))) simAW_nil)))
    simSs_nil)))
theorem sc_check_sum : FnScope ["value"] ["value"] (defScope s_check_sum) := ⟨rfl, rfl, rfl, by decide +kernel, rfl, by decide +kernel, by decide +kernel⟩
theorem cal_check_sum (T : Txt K mg t_MOST_PRODUCTS t_MOST_ROWS t_MOST_SPREAD) (C_is_sum : Cal P w K mg base 2 "is_sum" 2 F_is_sum) (Fu : Fun K "check_sum" "check_sum" s_check_sum a fd) (hm : mg "check_sum" = some (.ref a)) : Cal P w K mg base 3 "check_sum" 1 F_check_sum := by
  refine ⟨⟨a, fd, ["value"], fn_ok (k := 2) Fu sc_check_sum fun cdv A outer s H E hr => ?_, hm, Fu.kp, Fu.binds fun _ _ _ _ _ _ us hl => match us, hl with | [_], _ => rfl⟩⟩
  have hu := hr.units
  have hu7 := Room.units70 hr
  have nd := sc_check_sum.nd
  exact (simSs_cons (simS_if (simT_not (t_p (SimF.w (f_own hr C_is_sum (a_c (e_v 0) (a_c (e_gi T.c_MOST_ROWS) simA_nil))))))
      (simSs_cons (s_rs T.x_BadSum)
    simSs_nil)
      simSs_nil)
    simSs_nil)
theorem sc_all_there : FnScope ["rows", "parts", "p", "q", "row"] ["rows", "parts"] (defScope s_all_there) := ⟨rfl, rfl, rfl, by decide +kernel, rfl, by decide +kernel, by decide +kernel⟩
theorem cal_all_there (T : Txt K mg t_MOST_PRODUCTS t_MOST_ROWS t_MOST_SPREAD) (C_lowest : Cal P w K mg base 2 "lowest" 2 F_lowest) (Fu : Fun K "all_there" "all_there" s_all_there a fd) (hm : mg "all_there" = some (.ref a)) : Cal P w K mg base 3 "all_there" 2 F_all_there := by
  refine ⟨⟨a, fd, ["rows", "parts"], fn_ok (k := 2) Fu sc_all_there fun cdv A outer s H E hr => ?_, hm, Fu.kp, Fu.binds fun _ _ _ _ _ _ us hl => match us, hl with | [_, _], _ => rfl⟩⟩
  have hu := hr.units
  have hu7 := Room.units70 hr
  have nd := sc_all_there.nd
  exact (simSs_cons (s_asg (sim_tup (a_c sim_int (a_c sim_int simA_nil))) (g_t (gs_c (g_n 2 nd) (gs_c (g_n 3 nd) gs_0))))
    (simSs_cons (s_for (passes_of rfl) (simI_e afG (SimE.q afG (e_v 0))) (g_n 4 nd)
      (simSs_cons (s_par 2 3 nd (a_c (SimF.s (f_op op_oMul (w_v 2) (SimF.w (f_ix hu (SimF.w (f_ix hu (w_v 1) (w_v 4))) (SimE.w sim_int))))) (a_c (SimF.s (f_op op_oMul (w_v 3) (SimF.w (f_ix hu (SimF.w (f_ix hu (w_v 1) (w_v 4))) (SimE.w sim_int))))) simA_nil)))
    simSs_nil))
    (simSs_cons (simS_ret (f_own hr C_lowest (a_c (e_v 2) (a_c (e_v 3) simA_nil))))
    simSs_nil)))
theorem sc_added : FnScope ["one", "other"] ["one", "other"] (defScope s_added) := ⟨rfl, rfl, rfl, by decide +kernel, rfl, by decide +kernel, by decide +kernel⟩
theorem cal_added (T : Txt K mg t_MOST_PRODUCTS t_MOST_ROWS t_MOST_SPREAD) (C_lowest : Cal P w K mg base 2 "lowest" 2 F_lowest) (Fu : Fun K "added" "added" s_added a fd) (hm : mg "added" = some (.ref a)) : Cal P w K mg base 3 "added" 2 F_added := by
  refine ⟨⟨a, fd, ["one", "other"], fn_ok (k := 2) Fu sc_added fun cdv A outer s H E hr => ?_, hm, Fu.kp, Fu.binds fun _ _ _ _ _ _ us hl => match us, hl with | [_, _], _ => rfl⟩⟩
  have hu := hr.units
  have hu7 := Room.units70 hr
  have nd := sc_added.nd
  exact (simSs_cons (simS_ret (f_own hr C_lowest (a_c (SimF.s (f_op op_oAdd (SimF.w (f_op op_oMul (SimF.w (f_ix hu (w_v 0) (SimE.w sim_int))) (SimF.w (f_ix hu (w_v 1) (SimE.w sim_int))))) (SimF.w (f_op op_oMul (SimF.w (f_ix hu (w_v 1) (SimE.w sim_int))) (SimF.w (f_ix hu (w_v 0) (SimE.w sim_int))))))) (a_c (SimF.s (f_op op_oMul (SimF.w (f_ix hu (w_v 0) (SimE.w sim_int))) (SimF.w (f_ix hu (w_v 1) (SimE.w sim_int))))) simA_nil))))
    simSs_nil)
theorem sc_check_chances : FnScope ["told", "parts", "part"] ["told", "parts"] (defScope s_check_chances) := ⟨rfl, rfl, rfl, by decide +kernel, rfl, by decide +kernel, by decide +kernel⟩
theorem cal_check_chances (T : Txt K mg t_MOST_PRODUCTS t_MOST_ROWS t_MOST_SPREAD) (C_is_sum : Cal P w K mg base 2 "is_sum" 2 F_is_sum) (C_is_part : Cal P w K mg base 2 "is_part" 1 F_is_part) (C_check_sum : Cal P w K mg base 3 "check_sum" 1 F_check_sum) (Fu : Fun K "check_chances" "check_chances" s_check_chances a fd) (hm : mg "check_chances" = some (.ref a)) : Cal P w K mg base 4 "check_chances" 2 F_check_chances := by
  refine ⟨⟨a, fd, ["told", "parts"], fn_ok (k := 3) Fu sc_check_chances fun cdv A outer s H E hr => ?_, hm, Fu.kp, Fu.binds fun _ _ _ _ _ _ us hl => match us, hl with | [_, _], _ => rfl⟩⟩
  have hu := hr.units
  have hu7 := Room.units70 hr
  have nd := sc_check_chances.nd
  exact (simSs_cons (s_x (SimF.w (f_own hr C_check_sum (a_c (e_v 0) simA_nil))))
    (simSs_cons (simS_if (SimPW.t (simPW_or (simT_not (t_p (SimF.w (f_b call_gIsi T.z_isinstance (aw_c (w_v 1) (aw_c (SimE.w (e_ty "tuple" T.z_tuple)) simAW_nil)))))) (simPW_or (t_cmp (op_oGt hu) (SimF.w (f_b call_gLen T.z_len (aw_c (w_v 1) simAW_nil))) (SimE.w (e_gi T.c_MOST_ROWS))) (simPW_or1 (simT_not (t_p (SimF.w (f_b (call_gAll rfl) T.z_all (aw_c (SimF.w (f_lc [("part", 2)] nd (simI_e afE (SimW.q (w_v 1))) (fun _ _ _ _ _ => (g_n 2 nd)) (fun _ _ _ _ _ => simTs_nil) (fun _ _ _ _ _ => (SimF.s (f_own hr C_is_part (a_c (e_v 2) simA_nil)))))) simAW_nil)))))))))
      (simSs_cons (s_rs T.x_NoSuch)
    simSs_nil)
      simSs_nil)
    (simSs_cons (simS_if (simT_not (t_p (SimF.w (f_own hr C_is_sum (a_c (e_v 0) (a_c (SimF.s (f_b call_gLen T.z_len (aw_c (w_v 1) simAW_nil))) simA_nil))))))
      (simSs_cons (s_rs T.x_NoSuch)
    simSs_nil)
      simSs_nil)
    (simSs_cons (simS_if (t_cmp (op_oGt hu) (SimF.w (f_b call_gLen T.z_len (aw_c (w_v 0) simAW_nil))) (SimE.w (e_gi T.c_MOST_SPREAD)))
      (simSs_cons (s_rs T.x_TooFar)
    simSs_nil)
      simSs_nil)
    simSs_nil))))
theorem sc_expected_of : FnScope ["told", "parts", "found", "product", "number", "p", "q", "row", "_"] ["told", "parts"] (defScope s_expected_of) := ⟨rfl, rfl, rfl, by decide +kernel, rfl, by decide +kernel, by decide +kernel⟩
theorem cal_expected_of (T : Txt K mg t_MOST_PRODUCTS t_MOST_ROWS t_MOST_SPREAD) (C_all_there : Cal P w K mg base 3 "all_there" 2 F_all_there) (C_added : Cal P w K mg base 3 "added" 2 F_added) (Fu : Fun K "expected_of" "expected_of" s_expected_of a fd) (hm : mg "expected_of" = some (.ref a)) : Cal P w K mg base 4 "expected_of" 2 F_expected_of := by
  refine ⟨⟨a, fd, ["told", "parts"], fn_ok (k := 3) Fu sc_expected_of fun cdv A outer s H E hr => ?_, hm, Fu.kp, Fu.binds fun _ _ _ _ _ _ us hl => match us, hl with | [_, _], _ => rfl⟩⟩
  have hu := hr.units
  have hu7 := Room.units70 hr
  have nd := sc_expected_of.nd
  exact (simSs_cons (s_set 2 nd (SimE.f (sim_tup (a_c sim_int (a_c sim_int simA_nil)))))
    (simSs_cons (s_for (passes_of rfl) (simI_e afG (SimE.q afG (e_v 0))) (g_t (gs_c (g_n 3 nd) (gs_c (g_n 4 nd) gs_0)))
      (simSs_cons (s_asg (SimF.s (f_own hr C_all_there (a_c (SimF.s (f_lc [("row", 7), ("_", 8)] nd (simI_e afE (SimW.q (w_v 3))) (fun _ _ _ _ _ => (g_t (gs_c (g_n 7 nd) (gs_c (g_n 8 nd) gs_0)))) (fun _ _ _ _ _ => simTs_nil) (fun _ _ _ _ _ => (e_v 7)))) (a_c (e_v 1) simA_nil)))) (g_t (gs_c (g_n 5 nd) (gs_c (g_n 6 nd) gs_0))))
    (simSs_cons (s_set 2 nd (f_own hr C_added (a_c (e_v 2) (a_c (sim_tup (a_c (SimF.s (f_op op_oMul (w_v 4) (w_v 5))) (a_c (e_v 6) simA_nil))) simA_nil))))
    simSs_nil)))
    (simSs_cons (s_rv 2)
    simSs_nil)))
theorem sc_square_of : FnScope ["told", "parts", "found", "product", "number", "other", "many", "rows", "p", "q"] ["told", "parts"] (defScope s_square_of) := ⟨rfl, rfl, rfl, by decide +kernel, rfl, by decide +kernel, by decide +kernel⟩
theorem cal_square_of (T : Txt K mg t_MOST_PRODUCTS t_MOST_ROWS t_MOST_SPREAD) (C_all_there : Cal P w K mg base 3 "all_there" 2 F_all_there) (C_added : Cal P w K mg base 3 "added" 2 F_added) (Fu : Fun K "square_of" "square_of" s_square_of a fd) (hm : mg "square_of" = some (.ref a)) : Cal P w K mg base 4 "square_of" 2 F_square_of := by
  refine ⟨⟨a, fd, ["told", "parts"], fn_ok (k := 3) Fu sc_square_of fun cdv A outer s H E hr => ?_, hm, Fu.kp, Fu.binds fun _ _ _ _ _ _ us hl => match us, hl with | [_, _], _ => rfl⟩⟩
  have hu := hr.units
  have hu7 := Room.units70 hr
  have nd := sc_square_of.nd
  exact (simSs_cons (s_set 2 nd (SimE.f (sim_tup (a_c sim_int (a_c sim_int simA_nil)))))
    (simSs_cons (s_for (passes_of rfl) (simI_e afG (SimE.q afG (e_v 0))) (g_t (gs_c (g_n 3 nd) (gs_c (g_n 4 nd) gs_0)))
      (simSs_cons (s_for (passes_of rfl) (simI_e afG (SimE.q afG (e_v 0))) (g_t (gs_c (g_n 5 nd) (gs_c (g_n 6 nd) gs_0)))
      (simSs_cons (s_set 7 nd (f_b (call_gSorted rfl hu) T.z_sorted (aw_c (SimF.w (f_t (call_gDict rfl hu) T.z_dict (aw_c (SimF.w (f_op op_oAdd (w_v 3) (w_v 5))) simAW_nil))) simAW_nil)))
    (simSs_cons (simS_share 7 (s_asg (SimF.s (f_own hr C_all_there (a_c (e_v 7) (a_c (e_v 1) simA_nil)))) (g_t (gs_c (g_n 8 nd) (gs_c (g_n 9 nd) gs_0)))))
    (simSs_cons (s_set 2 nd (f_own hr C_added (a_c (e_v 2) (a_c (sim_tup (a_c (SimF.s (f_op op_oMul (SimF.w (f_op op_oMul (w_v 4) (w_v 6))) (w_v 8))) (a_c (e_v 9) simA_nil))) simA_nil))))
    simSs_nil))))
    simSs_nil))
    (simSs_cons (s_rv 2)
    simSs_nil)))
theorem sc_expected : FnScope ["told", "parts"] ["told", "parts"] (defScope s_expected) := ⟨rfl, rfl, rfl, by decide +kernel, rfl, by decide +kernel, by decide +kernel⟩
theorem cal_expected (T : Txt K mg t_MOST_PRODUCTS t_MOST_ROWS t_MOST_SPREAD) (C_check_chances : Cal P w K mg base 4 "check_chances" 2 F_check_chances) (C_expected_of : Cal P w K mg base 4 "expected_of" 2 F_expected_of) (Fu : Fun K "expected" "expected" s_expected a fd) (hm : mg "expected" = some (.ref a)) : Cal P w K mg base 5 "expected" 2 F_expected := by
  refine ⟨⟨a, fd, ["told", "parts"], fn_ok (k := 4) Fu sc_expected fun cdv A outer s H E hr => ?_, hm, Fu.kp, Fu.binds fun _ _ _ _ _ _ us hl => match us, hl with | [_, _], _ => rfl⟩⟩
  have hu := hr.units
  have hu7 := Room.units70 hr
  have nd := sc_expected.nd
  exact (simSs_cons (s_x (SimF.w (f_own hr C_check_chances (a_c (e_v 0) (a_c (e_v 1) simA_nil)))))
    (simSs_cons (simS_ret (f_own hr C_expected_of (a_c (e_v 0) (a_c (e_v 1) simA_nil))))
    simSs_nil))
theorem sc_expected_square : FnScope ["told", "parts"] ["told", "parts"] (defScope s_expected_square) := ⟨rfl, rfl, rfl, by decide +kernel, rfl, by decide +kernel, by decide +kernel⟩
theorem cal_expected_square (T : Txt K mg t_MOST_PRODUCTS t_MOST_ROWS t_MOST_SPREAD) (C_check_chances : Cal P w K mg base 4 "check_chances" 2 F_check_chances) (C_square_of : Cal P w K mg base 4 "square_of" 2 F_square_of) (Fu : Fun K "expected_square" "expected_square" s_expected_square a fd) (hm : mg "expected_square" = some (.ref a)) : Cal P w K mg base 5 "expected_square" 2 F_expected_square := by
  refine ⟨⟨a, fd, ["told", "parts"], fn_ok (k := 4) Fu sc_expected_square fun cdv A outer s H E hr => ?_, hm, Fu.kp, Fu.binds fun _ _ _ _ _ _ us hl => match us, hl with | [_, _], _ => rfl⟩⟩
  have hu := hr.units
  have hu7 := Room.units70 hr
  have nd := sc_expected_square.nd
  exact (simSs_cons (s_x (SimF.w (f_own hr C_check_chances (a_c (e_v 0) (a_c (e_v 1) simA_nil)))))
    (simSs_cons (simS_ret (f_own hr C_square_of (a_c (e_v 0) (a_c (e_v 1) simA_nil))))
    simSs_nil))
theorem sc_bounds : FnScope ["told", "parts", "p", "q", "high", "r", "s"] ["told", "parts"] (defScope s_bounds) := ⟨rfl, rfl, rfl, by decide +kernel, rfl, by decide +kernel, by decide +kernel⟩
theorem cal_bounds (T : Txt K mg t_MOST_PRODUCTS t_MOST_ROWS t_MOST_SPREAD) (C_lowest : Cal P w K mg base 2 "lowest" 2 F_lowest) (C_check_chances : Cal P w K mg base 4 "check_chances" 2 F_check_chances) (C_expected_of : Cal P w K mg base 4 "expected_of" 2 F_expected_of) (C_square_of : Cal P w K mg base 4 "square_of" 2 F_square_of) (Fu : Fun K "bounds" "bounds" s_bounds a fd) (hm : mg "bounds" = some (.ref a)) : Cal P w K mg base 5 "bounds" 2 F_bounds := by
  refine ⟨⟨a, fd, ["told", "parts"], fn_ok (k := 4) Fu sc_bounds fun cdv A outer s H E hr => ?_, hm, Fu.kp, Fu.binds fun _ _ _ _ _ _ us hl => match us, hl with | [_, _], _ => rfl⟩⟩
  have hu := hr.units
  have hu7 := Room.units70 hr
  have nd := sc_bounds.nd
  exact (simSs_cons (s_x (SimF.w (f_own hr C_check_chances (a_c (e_v 0) (a_c (e_v 1) simA_nil)))))
    (simSs_cons (s_asg (SimF.s (f_own hr C_expected_of (a_c (e_v 0) (a_c (e_v 1) simA_nil)))) (g_t (gs_c (g_n 2 nd) (gs_c (g_n 3 nd) gs_0))))
    (simSs_cons (simS_if (t_cmp (op_oEq hu) (w_v 2) (SimE.w sim_int))
      (simSs_cons (simS_ret (SimE.f (sim_tup (a_c (sim_tup (a_c sim_int (a_c sim_int simA_nil))) (a_c (sim_tup (a_c sim_int (a_c sim_int simA_nil))) simA_nil)))))
    simSs_nil)
      simSs_nil)
    (simSs_cons (s_set 4 nd (SimE.f (sim_tup (a_c (e_v 2) (a_c (e_v 3) simA_nil)))))
    (simSs_cons (simS_if (t_cmp (op_oGt hu) (w_v 2) (w_v 3))
      (simSs_cons (s_set 4 nd (SimE.f (sim_tup (a_c sim_int (a_c sim_int simA_nil)))))
    simSs_nil)
      simSs_nil)
    (simSs_cons (s_asg (SimF.s (f_own hr C_square_of (a_c (e_v 0) (a_c (e_v 1) simA_nil)))) (g_t (gs_c (g_n 5 nd) (gs_c (g_n 6 nd) gs_0))))
    (simSs_cons (simS_ret (SimE.f (sim_tup (a_c (SimF.s (f_own hr C_lowest (a_c (SimF.s (f_op op_oMul (SimF.w (f_op op_oMul (w_v 2) (w_v 2))) (w_v 6))) (a_c (SimF.s (f_op op_oMul (SimF.w (f_op op_oMul (w_v 3) (w_v 3))) (w_v 5))) simA_nil)))) (a_c (e_v 4) simA_nil)))))
    simSs_nil)))))))
theorem sc_spread : FnScope ["told", "parts", "p", "q", "r", "s"] ["told", "parts"] (defScope s_spread) := ⟨rfl, rfl, rfl, by decide +kernel, rfl, by decide +kernel, by decide +kernel⟩
theorem cal_spread (T : Txt K mg t_MOST_PRODUCTS t_MOST_ROWS t_MOST_SPREAD) (C_lowest : Cal P w K mg base 2 "lowest" 2 F_lowest) (C_check_chances : Cal P w K mg base 4 "check_chances" 2 F_check_chances) (C_expected_of : Cal P w K mg base 4 "expected_of" 2 F_expected_of) (C_square_of : Cal P w K mg base 4 "square_of" 2 F_square_of) (Fu : Fun K "spread" "spread" s_spread a fd) (hm : mg "spread" = some (.ref a)) : Cal P w K mg base 5 "spread" 2 F_spread := by
  refine ⟨⟨a, fd, ["told", "parts"], fn_ok (k := 4) Fu sc_spread fun cdv A outer s H E hr => ?_, hm, Fu.kp, Fu.binds fun _ _ _ _ _ _ us hl => match us, hl with | [_, _], _ => rfl⟩⟩
  have hu := hr.units
  have hu7 := Room.units70 hr
  have nd := sc_spread.nd
  exact (simSs_cons (s_x (SimF.w (f_own hr C_check_chances (a_c (e_v 0) (a_c (e_v 1) simA_nil)))))
    (simSs_cons (s_asg (SimF.s (f_own hr C_expected_of (a_c (e_v 0) (a_c (e_v 1) simA_nil)))) (g_t (gs_c (g_n 2 nd) (gs_c (g_n 3 nd) gs_0))))
    (simSs_cons (s_asg (SimF.s (f_own hr C_square_of (a_c (e_v 0) (a_c (e_v 1) simA_nil)))) (g_t (gs_c (g_n 4 nd) (gs_c (g_n 5 nd) gs_0))))
    (simSs_cons (simS_ret (f_own hr C_lowest (a_c (SimF.s (f_op op_oSub (SimF.w (f_op op_oMul (SimF.w (f_op op_oMul (w_v 4) (w_v 3))) (w_v 3))) (SimF.w (f_op op_oMul (SimF.w (f_op op_oMul (w_v 2) (w_v 2))) (w_v 5))))) (a_c (SimF.s (f_op op_oMul (SimF.w (f_op op_oMul (w_v 5) (w_v 3))) (w_v 3))) simA_nil))))
    simSs_nil))))
theorem sc__law_told : FnScope ["call", "given", "e"] ["call", "given"] (defScope s__law_told) := ⟨rfl, rfl, rfl, by decide +kernel, rfl, by decide +kernel, by decide +kernel⟩
theorem cal__law_told (T : Txt K mg t_MOST_PRODUCTS t_MOST_ROWS t_MOST_SPREAD) (C_expected : Cal P w K mg base 5 "expected" 2 F_expected) (C_expected_square : Cal P w K mg base 5 "expected_square" 2 F_expected_square) (C_bounds : Cal P w K mg base 5 "bounds" 2 F_bounds) (C_spread : Cal P w K mg base 5 "spread" 2 F_spread) (Fu : Fun K "_law_told" "_law_told" s__law_told a fd) (hm : mg "_law_told" = some (.ref a)) : Cal P w K mg base 6 "_law_told" 2 F__law_told := by
  refine ⟨⟨a, fd, ["call", "given"], fn_ok (k := 5) Fu sc__law_told fun cdv A outer s H E hr => ?_, hm, Fu.kp, Fu.binds fun _ _ _ _ _ _ us hl => match us, hl with | [_, _], _ => rfl⟩⟩
  have hu := hr.units
  have hu7 := Room.units70 hr
  have nd := sc__law_told.nd
  exact (simSs_cons (s_try T.sub (fun pn xe hp => (simSs_cons (simS_if (t_cmp (op_oEq hu) (SimF.w (f_b call_gLen T.z_len (aw_c (w_v 1) simAW_nil))) (SimE.w sim_int))
      (simSs_cons (simS_ret (f_cv (n := 1) (tbl := tblOf []) 0 hr tbl0 (a_c (SimF.s (f_ix hu (w_v 1) (SimE.w sim_int))) simA_nil)))
    simSs_nil)
      simSs_nil)
    (simSs_cons (simS_if (t_cmp (op_oEq hu) (SimF.w (f_b call_gLen T.z_len (aw_c (w_v 1) simAW_nil))) (SimE.w sim_int))
      (simSs_cons (simS_ret (f_cv (n := 2) (tbl := tblOf [("expected", F_expected), ("expected_square", F_expected_square), ("bounds", F_bounds), ("spread", F_spread)]) 0 hr (tblS C_expected (tblS C_expected_square (tblS C_bounds (tblS C_spread tbl0)))) (a_c (SimF.s (f_ix hu (w_v 1) (SimE.w sim_int))) (a_c (SimF.s (f_ix hu (w_v 1) (SimE.w sim_int))) simA_nil))))
    simSs_nil)
      simSs_nil)
    (simSs_cons (simS_if (t_cmp (op_oEq hu) (SimF.w (f_b call_gLen T.z_len (aw_c (w_v 1) simAW_nil))) (SimE.w sim_int))
      (simSs_cons (simS_ret (f_cv (n := 3) (tbl := tblOf []) 0 hr tbl0 (a_c (SimF.s (f_ix hu (w_v 1) (SimE.w sim_int))) (a_c (SimF.s (f_ix hu (w_v 1) (SimE.w sim_int))) (a_c (SimF.s (f_ix hu (w_v 1) (SimE.w sim_int))) simA_nil)))))
    simSs_nil)
      simSs_nil)
    (simSs_cons (simS_if (t_cmp (op_oEq hu) (SimF.w (f_b call_gLen T.z_len (aw_c (w_v 1) simAW_nil))) (SimE.w sim_int))
      (simSs_cons (simS_ret (f_cv (n := 4) (tbl := tblOf []) 0 hr tbl0 (a_c (SimF.s (f_ix hu (w_v 1) (SimE.w sim_int))) (a_c (SimF.s (f_ix hu (w_v 1) (SimE.w sim_int))) (a_c (SimF.s (f_ix hu (w_v 1) (SimE.w sim_int))) (a_c (SimF.s (f_ix hu (w_v 1) (SimE.w sim_int))) simA_nil))))))
    simSs_nil)
      simSs_nil)
    (simSs_cons (simS_if (t_cmp (op_oEq hu) (SimF.w (f_b call_gLen T.z_len (aw_c (w_v 1) simAW_nil))) (SimE.w sim_int))
      (simSs_cons (simS_ret (f_cv (n := 5) (tbl := tblOf []) 0 hr tbl0 (a_c (SimF.s (f_ix hu (w_v 1) (SimE.w sim_int))) (a_c (SimF.s (f_ix hu (w_v 1) (SimE.w sim_int))) (a_c (SimF.s (f_ix hu (w_v 1) (SimE.w sim_int))) (a_c (SimF.s (f_ix hu (w_v 1) (SimE.w sim_int))) (a_c (SimF.s (f_ix hu (w_v 1) (SimE.w sim_int))) simA_nil)))))))
    simSs_nil)
      simSs_nil)
    (simSs_cons (simS_ret (f_cv (n := 6) (tbl := tblOf []) 0 hr tbl0 (a_c (SimF.s (f_ix hu (w_v 1) (SimE.w sim_int))) (a_c (SimF.s (f_ix hu (w_v 1) (SimE.w sim_int))) (a_c (SimF.s (f_ix hu (w_v 1) (SimE.w sim_int))) (a_c (SimF.s (f_ix hu (w_v 1) (SimE.w sim_int))) (a_c (SimF.s (f_ix hu (w_v 1) (SimE.w sim_int))) (a_c (SimF.s (f_ix hu (w_v 1) (SimE.w sim_int))) simA_nil))))))))
    simSs_nil)))))))
      (h_c T.k_BadTables (fun _ _ => (simSs_cons (simS_ret (SimE.f sim_str))
    simSs_nil)) (h_c T.k_BadQuestion (fun _ _ => (simSs_cons (simS_ret (SimE.f sim_str))
    simSs_nil)) (h_c T.k_BadSum (fun _ _ => (simSs_cons (simS_ret (SimE.f sim_str))
    simSs_nil)) (h_s T.k_BadPaper (h_c T.k_NoSuch (fun _ _ => (simSs_cons (simS_ret (SimE.f sim_str))
    simSs_nil)) (h_c T.k_TooFar (fun _ _ => (simSs_cons (simS_ret (SimE.f sim_str))
    simSs_nil)) HdsM.nil)))))))
    simSs_nil)
theorem sc__law_case : FnScope ["bag", "many", "told", "parts", "q", "part", "first", "second", "stands", "numbers", "world", "weight", "row", "matches", "means", "low", "high", "odd", "call", "product", "number", "times", "n", "one"] ["bag"] (defScope s__law_case) := ⟨rfl, rfl, rfl, by decide +kernel, rfl, by decide +kernel, by decide +kernel⟩
theorem cal__law_case (T : Txt K mg t_MOST_PRODUCTS t_MOST_ROWS t_MOST_SPREAD) (C__law_draw : Cal P w K mg base 1 "_law_draw" 2 F__law_draw) (C__law_all : Cal P w K mg base 1 "_law_all" 1 F__law_all) (C__law_same : Cal P w K mg base 1 "_law_same" 2 F__law_same) (C__law_is_low : Cal P w K mg base 1 "_law_is_low" 1 F__law_is_low) (C__law_one : Cal P w K mg base 2 "_law_one" 2 F__law_one) (C__law_sum : Cal P w K mg base 2 "_law_sum" 2 F__law_sum) (C_expected : Cal P w K mg base 5 "expected" 2 F_expected) (C_expected_square : Cal P w K mg base 5 "expected_square" 2 F_expected_square) (C_bounds : Cal P w K mg base 5 "bounds" 2 F_bounds) (C_spread : Cal P w K mg base 5 "spread" 2 F_spread) (C__law_told : Cal P w K mg base 6 "_law_told" 2 F__law_told) (Fu : Fun K "_law_case" "_law_case" s__law_case a fd) (hm : mg "_law_case" = some (.ref a)) : Cal P w K mg base 7 "_law_case" 1 F__law_case := by
  refine ⟨⟨a, fd, ["bag"], fn_ok (k := 6) Fu sc__law_case fun cdv A outer s H E hr => ?_, hm, Fu.kp, Fu.binds fun _ _ _ _ _ _ us hl => match us, hl with | [_], _ => rfl⟩⟩
  have hu := hr.units
  have hu7 := Room.units70 hr
  have nd := sc__law_case.nd
  exact (simSs_cons (s_set 1 nd (f_op op_oAdd (SimE.w sim_int) (SimF.w (f_own hr C__law_draw (a_c (e_v 0) (a_c sim_int simA_nil))))))
    (simSs_cons (s_set 2 nd (f_own hr C__law_sum (a_c (e_v 0) (a_c (e_v 1) simA_nil))))
    (simSs_cons (s_set 3 nd (f_t call_gTuple T.z_tuple (aw_c (SimF.w (f_lc [("row", 12)] nd (i_r1 T.z_range (aw_c (w_v 1) simAW_nil)) (fun _ _ _ _ _ => (g_n 12 nd)) (fun _ _ _ _ _ => simTs_nil) (fun _ _ _ _ _ => (SimF.s (f_own hr C__law_one (a_c (e_v 0) (a_c (SimF.s (sim_lst (a_c (sim_tup (a_c sim_int (a_c sim_int simA_nil))) (a_c (sim_tup (a_c sim_int (a_c sim_int simA_nil))) (a_c (sim_tup (a_c sim_int (a_c sim_int simA_nil))) (a_c (sim_tup (a_c sim_int (a_c sim_int simA_nil))) (a_c (sim_tup (a_c sim_int (a_c sim_int simA_nil))) (a_c (sim_tup (a_c sim_int (a_c sim_int simA_nil))) simA_nil)))))))) simA_nil))))))) simAW_nil)))
    (simSs_cons (s_set 4 nd (SimE.f sim_int))
    (simSs_cons (s_for (passes_of rfl) (simI_e afG (SimE.q afG (e_v 3))) (g_n 5 nd)
      (simSs_cons (s_set 4 nd (f_op op_oMul (w_v 4) (SimF.w (f_ix hu (w_v 5) (SimE.w sim_int)))))
    simSs_nil))
    (simSs_cons (s_asg (sim_tup (a_c sim_int (a_c sim_int (a_c sim_int simA_nil)))) (g_t (gs_c (g_n 6 nd) (gs_c (g_n 7 nd) (gs_c (g_n 8 nd) gs_0)))))
    (simSs_cons (s_set 9 nd sim_dct0)
    (simSs_cons (s_for (passes_of rfl) (simI_e afG (SimE.q afG (SimF.s (f_own hr C__law_all (a_c (e_v 1) simA_nil))))) (g_n 10 nd)
      (simSs_cons (s_set 11 nd (SimE.f sim_int))
    (simSs_cons (s_for (passes_of rfl) (i_r1 T.z_range (aw_c (w_v 1) simAW_nil)) (g_n 12 nd)
      (simSs_cons (s_set 11 nd (f_op op_oMul (w_v 11) (SimE.w (sim_if (t_cmp (o_in hu7) (w_v 12) (w_v 10)) (SimF.s (f_ix hu (SimF.w (f_ix hu (w_v 3) (w_v 12))) (SimE.w sim_int))) (SimF.s (f_op op_oSub (SimF.w (f_ix hu (SimF.w (f_ix hu (w_v 3) (w_v 12))) (SimE.w sim_int))) (SimF.w (f_ix hu (SimF.w (f_ix hu (w_v 3) (w_v 12))) (SimE.w sim_int)))))))))
    simSs_nil))
    (simSs_cons (s_set 13 nd (f_b (call_gSum rfl) T.z_sum (aw_c (SimF.w (f_lc [("product", 19), ("number", 20)] nd (simI_e afE (SimW.q (w_v 2))) (fun _ _ _ _ _ => (g_t (gs_c (g_n 19 nd) (gs_c (g_n 20 nd) gs_0)))) (fun _ _ _ _ _ => (simTs_one (t_cmp (op_oEq hu) (SimF.w (f_lc [("row", 12), ("times", 21)] nd (simI_e afE (SimW.q (w_v 19))) (fun _ _ _ _ _ => (g_t (gs_c (g_n 12 nd) (gs_c (g_n 21 nd) gs_0)))) (fun _ _ _ _ _ => (simTs_one (t_cmp (o_ni hu7) (w_v 12) (w_v 10)))) (fun _ _ _ _ _ => (e_v 12)))) (SimF.w (sim_lst simA_nil))))) (fun _ _ _ _ _ => (e_v 20)))) simAW_nil)))
    (simSs_cons (s_set 6 nd (f_op op_oAdd (w_v 6) (SimF.w (f_op op_oMul (w_v 11) (w_v 13)))))
    (simSs_cons (s_set 7 nd (f_op op_oAdd (w_v 7) (SimF.w (f_op op_oMul (SimF.w (f_op op_oMul (w_v 11) (w_v 13))) (w_v 13)))))
    (simSs_cons (s_set 8 nd (f_op op_oAdd (w_v 8) (SimE.w (sim_if (t_cmp (op_oGt hu) (w_v 13) (SimE.w sim_int)) (e_v 11) sim_int))))
    (simSs_cons (simS_if (t_cmp (op_oGt hu) (w_v 11) (SimE.w sim_int))
      (simSs_cons (s_sub 9 hu (w_v 13) sim_int)
    simSs_nil)
      simSs_nil)
    simSs_nil))))))))
    (simSs_cons (s_set 14 nd (sim_lst (a_c (SimF.s (f_own hr C_expected (a_c (e_v 2) (a_c (e_v 3) simA_nil)))) (a_c (SimF.s (f_own hr C_expected_square (a_c (e_v 2) (a_c (e_v 3) simA_nil)))) (a_c (SimF.s (f_own hr C_spread (a_c (e_v 2) (a_c (e_v 3) simA_nil)))) simA_nil)))))
    (simSs_cons (simS_if (SimPW.t (simPW_or (simT_not (t_p (SimF.w (f_own hr C__law_same (a_c (SimF.s (f_ix hu (w_v 14) (SimE.w sim_int))) (a_c (sim_tup (a_c (e_v 6) (a_c (e_v 4) simA_nil))) simA_nil)))))) (simPW_or (simT_not (t_p (SimF.w (f_own hr C__law_same (a_c (SimF.s (f_ix hu (w_v 14) (SimE.w sim_int))) (a_c (sim_tup (a_c (e_v 7) (a_c (e_v 4) simA_nil))) simA_nil)))))) (simPW_or1 (simT_not (t_p (SimF.w (f_own hr C__law_same (a_c (SimF.s (f_ix hu (w_v 14) (SimE.w sim_int))) (a_c (sim_tup (a_c (SimF.s (f_op op_oSub (SimF.w (f_op op_oMul (w_v 7) (w_v 4))) (SimF.w (f_op op_oMul (w_v 6) (w_v 6))))) (a_c (SimF.s (f_op op_oMul (w_v 4) (w_v 4))) simA_nil))) simA_nil))))))))))
      (simSs_cons (simS_ret (SimE.f sim_bl))
    simSs_nil)
      simSs_nil)
    (simSs_cons (s_asg (SimF.s (f_own hr C_bounds (a_c (e_v 2) (a_c (e_v 3) simA_nil)))) (g_t (gs_c (g_n 15 nd) (gs_c (g_n 16 nd) gs_0))))
    (simSs_cons (simS_if (SimPW.t (simPW_or (t_cmp (op_oNe hu) (SimF.w (f_lc [("part", 5)] nd (simI_e afE (SimW.q (SimF.w (f_op op_oAdd (w_v 14) (SimF.w (sim_lst (a_c (e_v 15) (a_c (e_v 16) simA_nil)))))))) (fun _ _ _ _ _ => (g_n 5 nd)) (fun _ _ _ _ _ => (simTs_one (simT_not (t_p (SimF.w (f_own hr C__law_is_low (a_c (e_v 5) simA_nil))))))) (fun _ _ _ _ _ => (e_v 5)))) (SimF.w (sim_lst simA_nil))) (simPW_or1 (t_cmp (op_oNe hu) (SimF.w (f_cmp (op_oEq hu) (SimF.w (f_ix hu (w_v 14) (SimE.w sim_int))) (SimE.w (sim_tup (a_c sim_int (a_c sim_int simA_nil)))))) (SimF.w (f_cmp (op_oEq hu) (SimF.w (f_b call_gLen T.z_len (aw_c (w_v 9) simAW_nil))) (SimE.w sim_int)))))))
      (simSs_cons (simS_ret (SimE.f sim_bl))
    simSs_nil)
      simSs_nil)
    (simSs_cons (simS_if (SimPW.t (simPW_or (simT_not (t_p (SimF.w (f_own hr C__law_same (a_c (e_v 16) (a_c (sim_tup (a_c (SimF.s (f_b (call_gMin2 rfl) T.z_min (aw_c (w_v 6) (aw_c (w_v 4) simAW_nil)))) (a_c (e_v 4) simA_nil))) simA_nil)))))) (simPW_or1 (simT_not (t_p (SimF.w (f_own hr C__law_same (a_c (e_v 15) (a_c (sim_if (t_cmp (op_oGt hu) (w_v 7) (SimE.w sim_int)) (sim_tup (a_c (SimF.s (f_op op_oMul (w_v 6) (w_v 6))) (a_c (SimF.s (f_op op_oMul (w_v 4) (w_v 7))) simA_nil))) (sim_tup (a_c sim_int (a_c sim_int simA_nil)))) simA_nil)))))))))
      (simSs_cons (simS_ret (SimE.f sim_bl))
    simSs_nil)
      simSs_nil)
    (simSs_cons (simS_if (SimPW.t (simPW_or (t_cmp (op_oGt hu) (SimF.w (f_op op_oMul (SimF.w (f_ix hu (w_v 15) (SimE.w sim_int))) (w_v 4))) (SimF.w (f_op op_oMul (w_v 8) (SimF.w (f_ix hu (w_v 15) (SimE.w sim_int)))))) (simPW_or1 (t_cmp (op_oGt hu) (SimF.w (f_op op_oMul (w_v 8) (SimF.w (f_ix hu (w_v 16) (SimE.w sim_int))))) (SimF.w (f_op op_oMul (SimF.w (f_ix hu (w_v 16) (SimE.w sim_int))) (w_v 4)))))))
      (simSs_cons (simS_ret (SimE.f sim_bl))
    simSs_nil)
      simSs_nil)
    (simSs_cons (simS_if (t_cmp (op_oNe hu) (SimF.w (f_cmp (op_oEq hu) (SimF.w (f_op op_oMul (SimF.w (f_ix hu (w_v 15) (SimE.w sim_int))) (w_v 4))) (SimF.w (f_op op_oMul (w_v 8) (SimF.w (f_ix hu (w_v 15) (SimE.w sim_int))))))) (SimF.w (f_cmp (op_oLt hu) (SimF.w (f_b call_gLen T.z_len (aw_c (SimF.w (f_lc [("n", 22)] nd (simI_e afE (SimW.q (w_v 9))) (fun _ _ _ _ _ => (g_n 22 nd)) (fun _ _ _ _ _ => (simTs_one (t_cmp (op_oGt hu) (w_v 22) (SimE.w sim_int)))) (fun _ _ _ _ _ => (e_v 22)))) simAW_nil))) (SimE.w sim_int))))
      (simSs_cons (simS_ret (SimE.f sim_bl))
    simSs_nil)
      simSs_nil)
    (simSs_cons (s_set 17 nd (sim_lst (a_c sim_non (a_c (SimF.s (f_op op_oMul (SimE.w (sim_tup (a_c (sim_tup (a_c sim_int (a_c sim_int simA_nil))) simA_nil))) (w_v 1))) (a_c (SimF.s (f_op op_oMul (SimE.w (sim_tup (a_c (sim_tup (a_c sim_int (a_c sim_int simA_nil))) simA_nil))) (w_v 1))) (a_c (SimF.s (f_op op_oMul (SimF.w (sim_lst (a_c (sim_tup (a_c sim_int (a_c sim_int simA_nil))) simA_nil))) (w_v 1))) (a_c (SimF.s (f_op op_oMul (SimE.w (sim_tup (a_c (sim_tup (a_c sim_int (a_c sim_int simA_nil))) simA_nil))) (w_v 1))) simA_nil)))))))
    (simSs_cons (s_for (passes_of rfl) (simI_e afG (SimE.q afG (SimF.s (sim_lst (a_c (e_fn C_expected rfl) (a_c (e_fn C_expected_square rfl) (a_c (e_fn C_bounds rfl) (a_c (e_fn C_spread rfl) simA_nil)))))))) (g_n 18 nd)
      (simSs_cons (simS_if (SimPW.t (simPW_or (t_cmp (op_oNe hu) (SimF.w (f_lc [("one", 23)] nd (simI_e afE (SimW.q (w_v 17))) (fun _ _ _ _ _ => (g_n 23 nd)) (fun _ _ _ _ _ => simTs_nil) (fun _ _ _ _ _ => (SimF.s (f_own hr C__law_told (a_c (e_v 18) (a_c (sim_tup (a_c (e_v 2) (a_c (e_v 23) simA_nil))) simA_nil))))))) (SimF.w (f_op op_oMul (SimF.w (sim_lst (a_c sim_str simA_nil))) (SimE.w sim_int)))) (simPW_or (t_cmp (op_oNe hu) (SimF.w (f_own hr C__law_told (a_c (e_v 18) (a_c (sim_tup (a_c sim_non (a_c (e_v 3) simA_nil))) simA_nil)))) (SimE.w sim_str)) (simPW_or1 (t_cmp (op_oNe hu) (SimF.w (f_own hr C__law_told (a_c (e_v 18) (a_c (sim_tup (a_c (sim_tup (a_c (sim_tup (a_c (sim_tup (a_c (sim_tup (a_c (e_v 1) (a_c sim_int simA_nil))) simA_nil)) (a_c sim_int simA_nil))) simA_nil)) (a_c (e_v 3) simA_nil))) simA_nil)))) (SimE.w sim_str))))))
      (simSs_cons (simS_ret (SimE.f sim_bl))
    simSs_nil)
      simSs_nil)
    simSs_nil))
    (simSs_cons (simS_ret (SimE.f sim_bl))
    simSs_nil))))))))))))))))))
theorem sc_law : FnScope ["script", "coins", "every", "j", "many", "k", "row", "i"] ["script"] (defScope s_law) := ⟨rfl, rfl, rfl, by decide +kernel, rfl, by decide +kernel, by decide +kernel⟩
theorem law_fn (T : Txt K mg t_MOST_PRODUCTS t_MOST_ROWS t_MOST_SPREAD) (C__law_bag : Cal P w K mg base 1 "_law_bag" 2 F__law_bag) (C_expected : Cal P w K mg base 5 "expected" 2 F_expected) (C_bounds : Cal P w K mg base 5 "bounds" 2 F_bounds) (C_spread : Cal P w K mg base 5 "spread" 2 F_spread) (C__law_told : Cal P w K mg base 6 "_law_told" 2 F__law_told) (C__law_case : Cal P w K mg base 7 "_law_case" 1 F__law_case) (Fu : Fun K "law" "law" s_law a fd) : FnOk P w K mg base (L2.CX P w) 8 a fd ["script"] (spOf w K mg 1 F_law) := by
  refine fn_ok (k := 7) Fu sc_law fun cdv A outer s H E hr => ?_
  have hu := hr.units
  have hu7 := Room.units70 hr
  have nd := sc_law.nd
  exact (simSs_cons (s_set 1 nd (f_t call_gTuple T.z_tuple (aw_c (SimF.w (f_lc [("row", 6)] nd (i_r1 T.z_range (aw_c (SimE.w sim_int) simAW_nil)) (fun _ _ _ _ _ => (g_n 6 nd)) (fun _ _ _ _ _ => simTs_nil) (fun _ _ _ _ _ => (sim_tup (a_c (sim_tup (a_c (sim_tup (a_c (e_v 6) (a_c sim_int simA_nil))) simA_nil)) (a_c sim_int simA_nil)))))) simAW_nil)))
    (simSs_cons (simS_if (SimPW.t (simPW_or (t_cmp (op_oNe hu) (SimF.w (f_own hr C_expected (a_c (e_v 1) (a_c (SimF.s (f_op op_oMul (SimE.w (sim_tup (a_c (sim_tup (a_c sim_int (a_c sim_int simA_nil))) simA_nil))) (SimE.w sim_int))) simA_nil)))) (SimE.w (sim_tup (a_c sim_int (a_c sim_int simA_nil))))) (simPW_or (t_cmp (op_oNe hu) (SimF.w (f_own hr C_spread (a_c (e_v 1) (a_c (SimF.s (f_op op_oMul (SimE.w (sim_tup (a_c (sim_tup (a_c sim_int (a_c sim_int simA_nil))) simA_nil))) (SimE.w sim_int))) simA_nil)))) (SimE.w (sim_tup (a_c sim_int (a_c sim_int simA_nil))))) (simPW_or (t_cmp (op_oNe hu) (SimF.w (f_own hr C_bounds (a_c (e_v 1) (a_c (SimF.s (f_op op_oMul (SimE.w (sim_tup (a_c (sim_tup (a_c sim_int (a_c sim_int simA_nil))) simA_nil))) (SimE.w sim_int))) simA_nil)))) (SimE.w (sim_tup (a_c (sim_tup (a_c sim_int (a_c sim_int simA_nil))) (a_c (sim_tup (a_c sim_int (a_c sim_int simA_nil))) simA_nil))))) (simPW_or1 (t_cmp (op_oNe hu) (SimE.w (e_gi T.c_MOST_SPREAD)) (SimE.w sim_int)))))))
      (simSs_cons (simS_ret (SimE.f sim_bl))
    simSs_nil)
      simSs_nil)
    (simSs_cons (s_set 2 nd (sim_lst simA_nil))
    (simSs_cons (s_for (passes_of rfl) (i_r1 T.z_range (aw_c (SimE.w sim_int) simAW_nil)) (g_n 3 nd)
      (simSs_cons (s_set 2 nd (f_op op_oAdd (w_v 2) (SimF.w (f_lc [("i", 7)] nd (i_r1 T.z_range (aw_c (w_v 3) simAW_nil)) (fun _ _ _ _ _ => (g_n 7 nd)) (fun _ _ _ _ _ => simTs_nil) (fun _ _ _ _ _ => (sim_tup (a_c (sim_tup (a_c (sim_tup (a_c (e_v 7) (a_c sim_int simA_nil))) (a_c (sim_tup (a_c (e_v 3) (a_c sim_int simA_nil))) simA_nil))) (a_c sim_int simA_nil))))))))
    simSs_nil))
    (simSs_cons (s_set 4 nd (f_t call_gTuple T.z_tuple (aw_c (SimF.w (f_b (call_gSorted rfl hu) T.z_sorted (aw_c (w_v 2) simAW_nil))) simAW_nil)))
    (simSs_cons (simS_if (SimPW.t (simPW_or (t_cmp (op_oNe hu) (SimF.w (f_own hr C__law_told (a_c (e_fn C_expected rfl) (a_c (sim_tup (a_c (e_v 4) (a_c (SimF.s (f_op op_oMul (SimE.w (sim_tup (a_c (sim_tup (a_c sim_int (a_c sim_int simA_nil))) simA_nil))) (SimE.w sim_int))) simA_nil))) simA_nil)))) (SimE.w sim_str)) (simPW_or (t_cmp (op_oNe hu) (SimF.w (f_own hr C_expected (a_c (SimF.s (sim_sl (w_v 4) simo_none (simo_some (SimE.w sim_int)))) (a_c (SimF.s (f_op op_oMul (SimE.w (sim_tup (a_c (sim_tup (a_c sim_int (a_c sim_int simA_nil))) simA_nil))) (SimE.w sim_int))) simA_nil)))) (SimE.w (sim_tup (a_c sim_int (a_c sim_int simA_nil))))) (simPW_or (t_cmp (op_oNe hu) (SimF.w (f_own hr C_bounds (a_c (sim_tup simA_nil) (a_c (sim_tup simA_nil) simA_nil)))) (SimE.w (sim_tup (a_c (sim_tup (a_c sim_int (a_c sim_int simA_nil))) (a_c (sim_tup (a_c sim_int (a_c sim_int simA_nil))) simA_nil))))) (simPW_or1 (t_cmp (op_oNe hu) (SimF.w (f_own hr C_bounds (a_c (sim_tup (a_c (sim_tup (a_c (sim_tup simA_nil) (a_c sim_int simA_nil))) simA_nil)) (a_c (sim_tup simA_nil) simA_nil)))) (SimE.w (sim_tup (a_c (sim_tup (a_c sim_int (a_c sim_int simA_nil))) (a_c (sim_tup (a_c sim_int (a_c sim_int simA_nil))) simA_nil))))))))))
      (simSs_cons (simS_ret (SimE.f sim_bl))
    simSs_nil)
      simSs_nil)
    (simSs_cons (s_for (passes_of rfl) (i_r1 T.z_range (aw_c (SimF.w (f_b (call_gMin2 rfl) T.z_min (aw_c (SimF.w (f_b (call_gMax2 rfl) T.z_max (aw_c (SimF.w (f_b call_gLen T.z_len (aw_c (w_v 0) simAW_nil))) (aw_c (SimE.w sim_int) simAW_nil)))) (aw_c (SimE.w sim_int) simAW_nil)))) simAW_nil)) (g_n 5 nd)
      (simSs_cons (simS_if (simT_not (t_p (SimF.w (f_own hr C__law_case (a_c (SimF.r (f_own hr C__law_bag (a_c (e_v 0) (a_c (e_v 5) simA_nil)))) simA_nil)))))
      (simSs_cons (simS_ret (SimE.f sim_bl))
    simSs_nil)
      simSs_nil)
    simSs_nil))
    (simSs_cons (simS_ret (SimE.f sim_bl))
    simSs_nil))))))))
end
theorem all_mk (l : PySem.W.OpenLaw) {w : World} {K : PySem.W.Frag} {h : Heap} {mg : Str → Option Value} {fa : Addr} (X : K.In h) (G : h.Ns mainGlobals mg) (hfa : mg "law" = some (.ref fa)) {t_MOST_PRODUCTS t_MOST_ROWS t_MOST_SPREAD : Tok}
    {od0 an0 od1 an1 od2 an2 od3 an3 od4 an4 od5 an5 od6 an6 od7 an7 od8 an8 od9 an9 od10 an10 od11 an11 od12 an12 od13 an13 od14 an14 od15 an15 od16 an16 od17 an17 od18 an18 od19 an19 od20 an20 od21 an21 od22 an22 od23 an23 od24 an24 od25 an25 od26 an26 : Option Addr} {f0 f1 f2 f3 f4 f5 f6 f7 f8 f9 f10 f11 f12 f13 f14 f15 f16 f17 f18 f19 f20 f21 f22 f23 f24 f25 f26 : Addr} {sl0 sl1 sl2 sl3 sl4 sl5 sl6 sl7 sl8 sl9 sl10 sl11 sl12 sl13 sl14 sl15 sl16 sl17 sl18 sl19 sl20 sl21 sl22 sl23 sl24 sl25 sl26 : Array (Option Value)} {oc0 kV0 dc0 pm0 cd0 ct0 oc1 kV1 dc1 pm1 cd1 ct1 oc2 kV2 dc2 pm2 cd2 ct2 oc3 kV3 dc3 pm3 cd3 ct3 oc4 kV4 dc4 pm4 cd4 ct4 oc5 kV5 dc5 pm5 cd5 ct5 oc6 kV6 dc6 pm6 cd6 ct6 oc7 kV7 dc7 pm7 cd7 ct7 oc8 kV8 dc8 pm8 cd8 ct8 oc9 kV9 dc9 pm9 cd9 ct9 oc10 kV10 dc10 pm10 cd10 ct10 oc11 kV11 dc11 pm11 cd11 ct11 oc12 kV12 dc12 pm12 cd12 ct12 oc13 kV13 dc13 pm13 cd13 ct13 oc14 kV14 dc14 pm14 cd14 ct14 oc15 kV15 dc15 pm15 cd15 ct15 oc16 kV16 dc16 pm16 cd16 ct16 oc17 kV17 dc17 pm17 cd17 ct17 oc18 kV18 dc18 pm18 cd18 ct18 oc19 kV19 dc19 pm19 cd19 ct19 oc20 kV20 dc20 pm20 cd20 ct20 oc21 kV21 dc21 pm21 cd21 ct21 oc22 kV22 dc22 pm22 cd22 ct22 oc23 kV23 dc23 pm23 cd23 ct23 oc24 kV24 dc24 pm24 cd24 ct24 oc25 kV25 dc25 pm25 cd25 ct25 oc26 kV26 dc26 pm26 cd26 ct26 : Value}
    (a0 : PySem.W.nsIn K mainGlobals "is_integer" = some (some (.ref f0))) (l0 : K.lookup f0 = some ⟨oc0, od0, .func (PySem.W.fnOf "is_integer" "is_integer" (defArgs s_is_integer) (defBody s_is_integer) (defScope s_is_integer) .none kV0 dc0 pm0 an0 cd0 ct0), sl0⟩) (c0 : PySem.W.codeIn K cd0 "is_integer" = true) (k0 : PySem.W.keepIn K (.ref f0) = true)
    (a1 : PySem.W.nsIn K mainGlobals "are_ascending" = some (some (.ref f1))) (l1 : K.lookup f1 = some ⟨oc1, od1, .func (PySem.W.fnOf "are_ascending" "are_ascending" (defArgs s_are_ascending) (defBody s_are_ascending) (defScope s_are_ascending) .none kV1 dc1 pm1 an1 cd1 ct1), sl1⟩) (c1 : PySem.W.codeIn K cd1 "are_ascending" = true) (k1 : PySem.W.keepIn K (.ref f1) = true)
    (a2 : PySem.W.nsIn K mainGlobals "are_counted" = some (some (.ref f2))) (l2 : K.lookup f2 = some ⟨oc2, od2, .func (PySem.W.fnOf "are_counted" "are_counted" (defArgs s_are_counted) (defBody s_are_counted) (defScope s_are_counted) .none kV2 dc2 pm2 an2 cd2 ct2), sl2⟩) (c2 : PySem.W.codeIn K cd2 "are_counted" = true) (k2 : PySem.W.keepIn K (.ref f2) = true)
    (a3 : PySem.W.nsIn K mainGlobals "common" = some (some (.ref f3))) (l3 : K.lookup f3 = some ⟨oc3, od3, .func (PySem.W.fnOf "common" "common" (defArgs s_common) (defBody s_common) (defScope s_common) .none kV3 dc3 pm3 an3 cd3 ct3), sl3⟩) (c3 : PySem.W.codeIn K cd3 "common" = true) (k3 : PySem.W.keepIn K (.ref f3) = true)
    (a4 : PySem.W.nsIn K mainGlobals "_law_bag" = some (some (.ref f4))) (l4 : K.lookup f4 = some ⟨oc4, od4, .func (PySem.W.fnOf "_law_bag" "_law_bag" (defArgs s__law_bag) (defBody s__law_bag) (defScope s__law_bag) .none kV4 dc4 pm4 an4 cd4 ct4), sl4⟩) (c4 : PySem.W.codeIn K cd4 "_law_bag" = true) (k4 : PySem.W.keepIn K (.ref f4) = true)
    (a5 : PySem.W.nsIn K mainGlobals "_law_draw" = some (some (.ref f5))) (l5 : K.lookup f5 = some ⟨oc5, od5, .func (PySem.W.fnOf "_law_draw" "_law_draw" (defArgs s__law_draw) (defBody s__law_draw) (defScope s__law_draw) .none kV5 dc5 pm5 an5 cd5 ct5), sl5⟩) (c5 : PySem.W.codeIn K cd5 "_law_draw" = true) (k5 : PySem.W.keepIn K (.ref f5) = true)
    (a6 : PySem.W.nsIn K mainGlobals "_law_all" = some (some (.ref f6))) (l6 : K.lookup f6 = some ⟨oc6, od6, .func (PySem.W.fnOf "_law_all" "_law_all" (defArgs s__law_all) (defBody s__law_all) (defScope s__law_all) .none kV6 dc6 pm6 an6 cd6 ct6), sl6⟩) (c6 : PySem.W.codeIn K cd6 "_law_all" = true) (k6 : PySem.W.keepIn K (.ref f6) = true)
    (a7 : PySem.W.nsIn K mainGlobals "_law_same" = some (some (.ref f7))) (l7 : K.lookup f7 = some ⟨oc7, od7, .func (PySem.W.fnOf "_law_same" "_law_same" (defArgs s__law_same) (defBody s__law_same) (defScope s__law_same) .none kV7 dc7 pm7 an7 cd7 ct7), sl7⟩) (c7 : PySem.W.codeIn K cd7 "_law_same" = true) (k7 : PySem.W.keepIn K (.ref f7) = true)
    (a8 : PySem.W.nsIn K mainGlobals "_law_is_low" = some (some (.ref f8))) (l8 : K.lookup f8 = some ⟨oc8, od8, .func (PySem.W.fnOf "_law_is_low" "_law_is_low" (defArgs s__law_is_low) (defBody s__law_is_low) (defScope s__law_is_low) .none kV8 dc8 pm8 an8 cd8 ct8), sl8⟩) (c8 : PySem.W.codeIn K cd8 "_law_is_low" = true) (k8 : PySem.W.keepIn K (.ref f8) = true)
    (a9 : PySem.W.nsIn K mainGlobals "is_sum" = some (some (.ref f9))) (l9 : K.lookup f9 = some ⟨oc9, od9, .func (PySem.W.fnOf "is_sum" "is_sum" (defArgs s_is_sum) (defBody s_is_sum) (defScope s_is_sum) .none kV9 dc9 pm9 an9 cd9 ct9), sl9⟩) (c9 : PySem.W.codeIn K cd9 "is_sum" = true) (k9 : PySem.W.keepIn K (.ref f9) = true)
    (a10 : PySem.W.nsIn K mainGlobals "lowest" = some (some (.ref f10))) (l10 : K.lookup f10 = some ⟨oc10, od10, .func (PySem.W.fnOf "lowest" "lowest" (defArgs s_lowest) (defBody s_lowest) (defScope s_lowest) .none kV10 dc10 pm10 an10 cd10 ct10), sl10⟩) (c10 : PySem.W.codeIn K cd10 "lowest" = true) (k10 : PySem.W.keepIn K (.ref f10) = true)
    (a11 : PySem.W.nsIn K mainGlobals "is_part" = some (some (.ref f11))) (l11 : K.lookup f11 = some ⟨oc11, od11, .func (PySem.W.fnOf "is_part" "is_part" (defArgs s_is_part) (defBody s_is_part) (defScope s_is_part) .none kV11 dc11 pm11 an11 cd11 ct11), sl11⟩) (c11 : PySem.W.codeIn K cd11 "is_part" = true) (k11 : PySem.W.keepIn K (.ref f11) = true)
    (a12 : PySem.W.nsIn K mainGlobals "_law_one" = some (some (.ref f12))) (l12 : K.lookup f12 = some ⟨oc12, od12, .func (PySem.W.fnOf "_law_one" "_law_one" (defArgs s__law_one) (defBody s__law_one) (defScope s__law_one) .none kV12 dc12 pm12 an12 cd12 ct12), sl12⟩) (c12 : PySem.W.codeIn K cd12 "_law_one" = true) (k12 : PySem.W.keepIn K (.ref f12) = true)
    (a13 : PySem.W.nsIn K mainGlobals "_law_sum" = some (some (.ref f13))) (l13 : K.lookup f13 = some ⟨oc13, od13, .func (PySem.W.fnOf "_law_sum" "_law_sum" (defArgs s__law_sum) (defBody s__law_sum) (defScope s__law_sum) .none kV13 dc13 pm13 an13 cd13 ct13), sl13⟩) (c13 : PySem.W.codeIn K cd13 "_law_sum" = true) (k13 : PySem.W.keepIn K (.ref f13) = true)
    (a14 : PySem.W.nsIn K mainGlobals "check_sum" = some (some (.ref f14))) (l14 : K.lookup f14 = some ⟨oc14, od14, .func (PySem.W.fnOf "check_sum" "check_sum" (defArgs s_check_sum) (defBody s_check_sum) (defScope s_check_sum) .none kV14 dc14 pm14 an14 cd14 ct14), sl14⟩) (c14 : PySem.W.codeIn K cd14 "check_sum" = true) (k14 : PySem.W.keepIn K (.ref f14) = true)
    (a15 : PySem.W.nsIn K mainGlobals "all_there" = some (some (.ref f15))) (l15 : K.lookup f15 = some ⟨oc15, od15, .func (PySem.W.fnOf "all_there" "all_there" (defArgs s_all_there) (defBody s_all_there) (defScope s_all_there) .none kV15 dc15 pm15 an15 cd15 ct15), sl15⟩) (c15 : PySem.W.codeIn K cd15 "all_there" = true) (k15 : PySem.W.keepIn K (.ref f15) = true)
    (a16 : PySem.W.nsIn K mainGlobals "added" = some (some (.ref f16))) (l16 : K.lookup f16 = some ⟨oc16, od16, .func (PySem.W.fnOf "added" "added" (defArgs s_added) (defBody s_added) (defScope s_added) .none kV16 dc16 pm16 an16 cd16 ct16), sl16⟩) (c16 : PySem.W.codeIn K cd16 "added" = true) (k16 : PySem.W.keepIn K (.ref f16) = true)
    (a17 : PySem.W.nsIn K mainGlobals "check_chances" = some (some (.ref f17))) (l17 : K.lookup f17 = some ⟨oc17, od17, .func (PySem.W.fnOf "check_chances" "check_chances" (defArgs s_check_chances) (defBody s_check_chances) (defScope s_check_chances) .none kV17 dc17 pm17 an17 cd17 ct17), sl17⟩) (c17 : PySem.W.codeIn K cd17 "check_chances" = true) (k17 : PySem.W.keepIn K (.ref f17) = true)
    (a18 : PySem.W.nsIn K mainGlobals "expected_of" = some (some (.ref f18))) (l18 : K.lookup f18 = some ⟨oc18, od18, .func (PySem.W.fnOf "expected_of" "expected_of" (defArgs s_expected_of) (defBody s_expected_of) (defScope s_expected_of) .none kV18 dc18 pm18 an18 cd18 ct18), sl18⟩) (c18 : PySem.W.codeIn K cd18 "expected_of" = true) (k18 : PySem.W.keepIn K (.ref f18) = true)
    (a19 : PySem.W.nsIn K mainGlobals "square_of" = some (some (.ref f19))) (l19 : K.lookup f19 = some ⟨oc19, od19, .func (PySem.W.fnOf "square_of" "square_of" (defArgs s_square_of) (defBody s_square_of) (defScope s_square_of) .none kV19 dc19 pm19 an19 cd19 ct19), sl19⟩) (c19 : PySem.W.codeIn K cd19 "square_of" = true) (k19 : PySem.W.keepIn K (.ref f19) = true)
    (a20 : PySem.W.nsIn K mainGlobals "expected" = some (some (.ref f20))) (l20 : K.lookup f20 = some ⟨oc20, od20, .func (PySem.W.fnOf "expected" "expected" (defArgs s_expected) (defBody s_expected) (defScope s_expected) .none kV20 dc20 pm20 an20 cd20 ct20), sl20⟩) (c20 : PySem.W.codeIn K cd20 "expected" = true) (k20 : PySem.W.keepIn K (.ref f20) = true)
    (a21 : PySem.W.nsIn K mainGlobals "expected_square" = some (some (.ref f21))) (l21 : K.lookup f21 = some ⟨oc21, od21, .func (PySem.W.fnOf "expected_square" "expected_square" (defArgs s_expected_square) (defBody s_expected_square) (defScope s_expected_square) .none kV21 dc21 pm21 an21 cd21 ct21), sl21⟩) (c21 : PySem.W.codeIn K cd21 "expected_square" = true) (k21 : PySem.W.keepIn K (.ref f21) = true)
    (a22 : PySem.W.nsIn K mainGlobals "bounds" = some (some (.ref f22))) (l22 : K.lookup f22 = some ⟨oc22, od22, .func (PySem.W.fnOf "bounds" "bounds" (defArgs s_bounds) (defBody s_bounds) (defScope s_bounds) .none kV22 dc22 pm22 an22 cd22 ct22), sl22⟩) (c22 : PySem.W.codeIn K cd22 "bounds" = true) (k22 : PySem.W.keepIn K (.ref f22) = true)
    (a23 : PySem.W.nsIn K mainGlobals "spread" = some (some (.ref f23))) (l23 : K.lookup f23 = some ⟨oc23, od23, .func (PySem.W.fnOf "spread" "spread" (defArgs s_spread) (defBody s_spread) (defScope s_spread) .none kV23 dc23 pm23 an23 cd23 ct23), sl23⟩) (c23 : PySem.W.codeIn K cd23 "spread" = true) (k23 : PySem.W.keepIn K (.ref f23) = true)
    (a24 : PySem.W.nsIn K mainGlobals "_law_told" = some (some (.ref f24))) (l24 : K.lookup f24 = some ⟨oc24, od24, .func (PySem.W.fnOf "_law_told" "_law_told" (defArgs s__law_told) (defBody s__law_told) (defScope s__law_told) .none kV24 dc24 pm24 an24 cd24 ct24), sl24⟩) (c24 : PySem.W.codeIn K cd24 "_law_told" = true) (k24 : PySem.W.keepIn K (.ref f24) = true)
    (a25 : PySem.W.nsIn K mainGlobals "_law_case" = some (some (.ref f25))) (l25 : K.lookup f25 = some ⟨oc25, od25, .func (PySem.W.fnOf "_law_case" "_law_case" (defArgs s__law_case) (defBody s__law_case) (defScope s__law_case) .none kV25 dc25 pm25 an25 cd25 ct25), sl25⟩) (c25 : PySem.W.codeIn K cd25 "_law_case" = true) (k25 : PySem.W.keepIn K (.ref f25) = true)
    (a26 : PySem.W.nsIn K mainGlobals "law" = some (some (.ref f26))) (l26 : K.lookup f26 = some ⟨oc26, od26, .func (PySem.W.fnOf "law" "law" (defArgs s_law) (defBody s_law) (defScope s_law) .none kV26 dc26 pm26 an26 cd26 ct26), sl26⟩) (c26 : PySem.W.codeIn K cd26 "law" = true) (k26 : PySem.W.keepIn K (.ref f26) = true)
    (z_all : PySem.W.nsIn K mainGlobals "all" = some none)
    (z_bool : PySem.W.nsIn K mainGlobals "bool" = some none)
    (z_dict : PySem.W.nsIn K mainGlobals "dict" = some none)
    (z_int : PySem.W.nsIn K mainGlobals "int" = some none)
    (z_isinstance : PySem.W.nsIn K mainGlobals "isinstance" = some none)
    (z_len : PySem.W.nsIn K mainGlobals "len" = some none)
    (z_max : PySem.W.nsIn K mainGlobals "max" = some none)
    (z_min : PySem.W.nsIn K mainGlobals "min" = some none)
    (z_range : PySem.W.nsIn K mainGlobals "range" = some none)
    (z_sorted : PySem.W.nsIn K mainGlobals "sorted" = some none)
    (z_sum : PySem.W.nsIn K mainGlobals "sum" = some none)
    (z_tuple : PySem.W.nsIn K mainGlobals "tuple" = some none)
    (z_zip : PySem.W.nsIn K mainGlobals "zip" = some none)
    (q_MOST_PRODUCTS : PySem.W.nsIn K mainGlobals "MOST_PRODUCTS" = some (some (.int 2000 t_MOST_PRODUCTS)))
    (q_MOST_ROWS : PySem.W.nsIn K mainGlobals "MOST_ROWS" = some (some (.int 40 t_MOST_ROWS)))
    (q_MOST_SPREAD : PySem.W.nsIn K mainGlobals "MOST_SPREAD" = some (some (.int 200 t_MOST_SPREAD)))
    {A_BadTables : Addr} (n_BadTables : PySem.W.nsIn K mainGlobals "BadTables" = some (some (.ref A_BadTables)))
    (bb_BadTables : PySem.W.subIn K (.ref A_BadTables) (.type "BaseException") = some true) (tt_BadTables : PySem.W.typeIn K (.ref A_BadTables) = some (.type "type"))
    (ii_BadTables : PySem.W.isClsIn K A_BadTables = true)
    {A_BadQuestion : Addr} (n_BadQuestion : PySem.W.nsIn K mainGlobals "BadQuestion" = some (some (.ref A_BadQuestion)))
    (bb_BadQuestion : PySem.W.subIn K (.ref A_BadQuestion) (.type "BaseException") = some true) (tt_BadQuestion : PySem.W.typeIn K (.ref A_BadQuestion) = some (.type "type"))
    (ii_BadQuestion : PySem.W.isClsIn K A_BadQuestion = true)
    {A_BadSum : Addr} (n_BadSum : PySem.W.nsIn K mainGlobals "BadSum" = some (some (.ref A_BadSum)))
    (xx_BadSum : PySem.W.excIn K A_BadSum [.type "ValueError", .type "Exception", .type "BaseException", .type "object"] "ValueError.__new__" = true) (kk_BadSum : PySem.W.keepIn K (.ref A_BadSum) = true)
    (bb_BadSum : PySem.W.subIn K (.ref A_BadSum) (.type "BaseException") = some true) (tt_BadSum : PySem.W.typeIn K (.ref A_BadSum) = some (.type "type"))
    (ii_BadSum : PySem.W.isClsIn K A_BadSum = true)
    {A_BadPaper : Addr} (n_BadPaper : PySem.W.nsIn K mainGlobals "BadPaper" = some (some (.ref A_BadPaper)))
    (bb_BadPaper : PySem.W.subIn K (.ref A_BadPaper) (.type "BaseException") = some true) (tt_BadPaper : PySem.W.typeIn K (.ref A_BadPaper) = some (.type "type"))
    (ii_BadPaper : PySem.W.isClsIn K A_BadPaper = true)
    {A_NoSuch : Addr} (n_NoSuch : PySem.W.nsIn K mainGlobals "NoSuch" = some (some (.ref A_NoSuch)))
    (xx_NoSuch : PySem.W.excIn K A_NoSuch [.type "ValueError", .type "Exception", .type "BaseException", .type "object"] "ValueError.__new__" = true) (kk_NoSuch : PySem.W.keepIn K (.ref A_NoSuch) = true)
    (bb_NoSuch : PySem.W.subIn K (.ref A_NoSuch) (.type "BaseException") = some true) (tt_NoSuch : PySem.W.typeIn K (.ref A_NoSuch) = some (.type "type"))
    (ii_NoSuch : PySem.W.isClsIn K A_NoSuch = true)
    {A_TooFar : Addr} (n_TooFar : PySem.W.nsIn K mainGlobals "TooFar" = some (some (.ref A_TooFar)))
    (xx_TooFar : PySem.W.excIn K A_TooFar [.type "ValueError", .type "Exception", .type "BaseException", .type "object"] "ValueError.__new__" = true) (kk_TooFar : PySem.W.keepIn K (.ref A_TooFar) = true)
    (bb_TooFar : PySem.W.subIn K (.ref A_TooFar) (.type "BaseException") = some true) (tt_TooFar : PySem.W.typeIn K (.ref A_TooFar) = some (.type "type"))
    (ii_TooFar : PySem.W.isClsIn K A_TooFar = true)
    (ss_BadSum_TooFar : PySem.W.subIn K (.ref A_BadSum) (.ref A_TooFar) = some false)
    (ss_BadSum_NoSuch : PySem.W.subIn K (.ref A_BadSum) (.ref A_NoSuch) = some false)
    (ss_BadSum_BadPaper : PySem.W.subIn K (.ref A_BadSum) (.ref A_BadPaper) = some false)
    (ss_BadSum_BadSum : PySem.W.subIn K (.ref A_BadSum) (.ref A_BadSum) = some true)
    (ss_BadSum_BadQuestion : PySem.W.subIn K (.ref A_BadSum) (.ref A_BadQuestion) = some false)
    (ss_BadSum_BadTables : PySem.W.subIn K (.ref A_BadSum) (.ref A_BadTables) = some false)
    (ss_NoSuch_TooFar : PySem.W.subIn K (.ref A_NoSuch) (.ref A_TooFar) = some false)
    (ss_NoSuch_NoSuch : PySem.W.subIn K (.ref A_NoSuch) (.ref A_NoSuch) = some true)
    (ss_NoSuch_BadPaper : PySem.W.subIn K (.ref A_NoSuch) (.ref A_BadPaper) = some false)
    (ss_NoSuch_BadSum : PySem.W.subIn K (.ref A_NoSuch) (.ref A_BadSum) = some false)
    (ss_NoSuch_BadQuestion : PySem.W.subIn K (.ref A_NoSuch) (.ref A_BadQuestion) = some false)
    (ss_NoSuch_BadTables : PySem.W.subIn K (.ref A_NoSuch) (.ref A_BadTables) = some false)
    (ss_TooFar_TooFar : PySem.W.subIn K (.ref A_TooFar) (.ref A_TooFar) = some true)
    (ss_TooFar_NoSuch : PySem.W.subIn K (.ref A_TooFar) (.ref A_NoSuch) = some false)
    (ss_TooFar_BadPaper : PySem.W.subIn K (.ref A_TooFar) (.ref A_BadPaper) = some false)
    (ss_TooFar_BadSum : PySem.W.subIn K (.ref A_TooFar) (.ref A_BadSum) = some false)
    (ss_TooFar_BadQuestion : PySem.W.subIn K (.ref A_TooFar) (.ref A_BadQuestion) = some false)
    (ss_TooFar_BadTables : PySem.W.subIn K (.ref A_TooFar) (.ref A_BadTables) = some false)
    (law_true : ∀ ns : List Int, ns.length ≤ 63 → ∃ h', F_law [.fzl (ns.map .int)] [] = .ok (.pu (.bl true)) h') :
    ∃ fd : FuncData, (∀ (s : Shared) (v : Value), BindsTo s fd ⟨[v], []⟩ [("script", v)]) ∧ ∀ base : Heap, K.In base → base.Ns mainGlobals mg → FnOk l.prog w K mg base (L2.CX l.prog w) 8 fa fd ["script"] (spLaw K 63) := by
  have e := hfa.symm.trans (PySem.W.mg_of X G a26)
  cases e
  have F0 := fun_mk (st := s_is_integer) l0 c0 k0
  have F1 := fun_mk (st := s_are_ascending) l1 c1 k1
  have F2 := fun_mk (st := s_are_counted) l2 c2 k2
  have F3 := fun_mk (st := s_common) l3 c3 k3
  have F4 := fun_mk (st := s__law_bag) l4 c4 k4
  have F5 := fun_mk (st := s__law_draw) l5 c5 k5
  have F6 := fun_mk (st := s__law_all) l6 c6 k6
  have F7 := fun_mk (st := s__law_same) l7 c7 k7
  have F8 := fun_mk (st := s__law_is_low) l8 c8 k8
  have F9 := fun_mk (st := s_is_sum) l9 c9 k9
  have F10 := fun_mk (st := s_lowest) l10 c10 k10
  have F11 := fun_mk (st := s_is_part) l11 c11 k11
  have F12 := fun_mk (st := s__law_one) l12 c12 k12
  have F13 := fun_mk (st := s__law_sum) l13 c13 k13
  have F14 := fun_mk (st := s_check_sum) l14 c14 k14
  have F15 := fun_mk (st := s_all_there) l15 c15 k15
  have F16 := fun_mk (st := s_added) l16 c16 k16
  have F17 := fun_mk (st := s_check_chances) l17 c17 k17
  have F18 := fun_mk (st := s_expected_of) l18 c18 k18
  have F19 := fun_mk (st := s_square_of) l19 c19 k19
  have F20 := fun_mk (st := s_expected) l20 c20 k20
  have F21 := fun_mk (st := s_expected_square) l21 c21 k21
  have F22 := fun_mk (st := s_bounds) l22 c22 k22
  have F23 := fun_mk (st := s_spread) l23 c23 k23
  have F24 := fun_mk (st := s__law_told) l24 c24 k24
  have F25 := fun_mk (st := s__law_case) l25 c25 k25
  have F26 := fun_mk (st := s_law) l26 c26 k26
  have T : Txt K mg t_MOST_PRODUCTS t_MOST_ROWS t_MOST_SPREAD := ⟨PySem.W.mg_none_of X G z_all, PySem.W.mg_none_of X G z_bool, PySem.W.mg_none_of X G z_dict, PySem.W.mg_none_of X G z_int, PySem.W.mg_none_of X G z_isinstance, PySem.W.mg_none_of X G z_len, PySem.W.mg_none_of X G z_max, PySem.W.mg_none_of X G z_min, PySem.W.mg_none_of X G z_range, PySem.W.mg_none_of X G z_sorted, PySem.W.mg_none_of X G z_sum, PySem.W.mg_none_of X G z_tuple, PySem.W.mg_none_of X G z_zip, PySem.W.mg_of X G q_MOST_PRODUCTS, PySem.W.mg_of X G q_MOST_ROWS, PySem.W.mg_of X G q_MOST_SPREAD, ⟨_, PySem.W.mg_of X G n_BadSum, xx_BadSum, kk_BadSum, bb_BadSum, tt_BadSum⟩, ⟨_, PySem.W.mg_of X G n_NoSuch, xx_NoSuch, kk_NoSuch, bb_NoSuch, tt_NoSuch⟩, ⟨_, PySem.W.mg_of X G n_TooFar, xx_TooFar, kk_TooFar, bb_TooFar, tt_TooFar⟩, ⟨_, PySem.W.mg_of X G n_TooFar⟩, ⟨_, PySem.W.mg_of X G n_NoSuch⟩, ⟨_, PySem.W.mg_of X G n_BadPaper⟩, ⟨_, PySem.W.mg_of X G n_BadSum⟩, ⟨_, PySem.W.mg_of X G n_BadQuestion⟩, ⟨_, PySem.W.mg_of X G n_BadTables⟩, (subS (PySem.W.mg_of X G n_BadSum) (PySem.W.mg_of X G n_TooFar) (exm_mk bb_TooFar ii_TooFar tt_TooFar ss_BadSum_TooFar) (subS (PySem.W.mg_of X G n_BadSum) (PySem.W.mg_of X G n_NoSuch) (exm_mk bb_NoSuch ii_NoSuch tt_NoSuch ss_BadSum_NoSuch) (subS (PySem.W.mg_of X G n_BadSum) (PySem.W.mg_of X G n_BadPaper) (exm_mk bb_BadPaper ii_BadPaper tt_BadPaper ss_BadSum_BadPaper) (subS (PySem.W.mg_of X G n_BadSum) (PySem.W.mg_of X G n_BadSum) (exm_mk bb_BadSum ii_BadSum tt_BadSum ss_BadSum_BadSum) (subS (PySem.W.mg_of X G n_BadSum) (PySem.W.mg_of X G n_BadQuestion) (exm_mk bb_BadQuestion ii_BadQuestion tt_BadQuestion ss_BadSum_BadQuestion) (subS (PySem.W.mg_of X G n_BadSum) (PySem.W.mg_of X G n_BadTables) (exm_mk bb_BadTables ii_BadTables tt_BadTables ss_BadSum_BadTables) (subS (PySem.W.mg_of X G n_NoSuch) (PySem.W.mg_of X G n_TooFar) (exm_mk bb_TooFar ii_TooFar tt_TooFar ss_NoSuch_TooFar) (subS (PySem.W.mg_of X G n_NoSuch) (PySem.W.mg_of X G n_NoSuch) (exm_mk bb_NoSuch ii_NoSuch tt_NoSuch ss_NoSuch_NoSuch) (subS (PySem.W.mg_of X G n_NoSuch) (PySem.W.mg_of X G n_BadPaper) (exm_mk bb_BadPaper ii_BadPaper tt_BadPaper ss_NoSuch_BadPaper) (subS (PySem.W.mg_of X G n_NoSuch) (PySem.W.mg_of X G n_BadSum) (exm_mk bb_BadSum ii_BadSum tt_BadSum ss_NoSuch_BadSum) (subS (PySem.W.mg_of X G n_NoSuch) (PySem.W.mg_of X G n_BadQuestion) (exm_mk bb_BadQuestion ii_BadQuestion tt_BadQuestion ss_NoSuch_BadQuestion) (subS (PySem.W.mg_of X G n_NoSuch) (PySem.W.mg_of X G n_BadTables) (exm_mk bb_BadTables ii_BadTables tt_BadTables ss_NoSuch_BadTables) (subS (PySem.W.mg_of X G n_TooFar) (PySem.W.mg_of X G n_TooFar) (exm_mk bb_TooFar ii_TooFar tt_TooFar ss_TooFar_TooFar) (subS (PySem.W.mg_of X G n_TooFar) (PySem.W.mg_of X G n_NoSuch) (exm_mk bb_NoSuch ii_NoSuch tt_NoSuch ss_TooFar_NoSuch) (subS (PySem.W.mg_of X G n_TooFar) (PySem.W.mg_of X G n_BadPaper) (exm_mk bb_BadPaper ii_BadPaper tt_BadPaper ss_TooFar_BadPaper) (subS (PySem.W.mg_of X G n_TooFar) (PySem.W.mg_of X G n_BadSum) (exm_mk bb_BadSum ii_BadSum tt_BadSum ss_TooFar_BadSum) (subS (PySem.W.mg_of X G n_TooFar) (PySem.W.mg_of X G n_BadQuestion) (exm_mk bb_BadQuestion ii_BadQuestion tt_BadQuestion ss_TooFar_BadQuestion) (subS (PySem.W.mg_of X G n_TooFar) (PySem.W.mg_of X G n_BadTables) (exm_mk bb_BadTables ii_BadTables tt_BadTables ss_TooFar_BadTables) sub0))))))))))))))))))⟩
  refine ⟨PySem.W.fnOf "law" "law" (defArgs s_law) (defBody s_law) (defScope s_law) .none kV26 dc26 pm26 an26 cd26 ct26, fun s v => .of_eq rfl, fun base _ _ => ?_⟩
  have C_is_integer : Cal l.prog w K mg base 1 "is_integer" 3 F_is_integer := cal_is_integer T  F0 (PySem.W.mg_of X G a0)
  have C_are_ascending : Cal l.prog w K mg base 1 "are_ascending" 1 F_are_ascending := cal_are_ascending T  F1 (PySem.W.mg_of X G a1)
  have C_are_counted : Cal l.prog w K mg base 1 "are_counted" 1 F_are_counted := cal_are_counted T  F2 (PySem.W.mg_of X G a2)
  have C_common : Cal l.prog w K mg base 1 "common" 2 F_common := cal_common T  F3 (PySem.W.mg_of X G a3)
  have C__law_bag : Cal l.prog w K mg base 1 "_law_bag" 2 F__law_bag := cal__law_bag T  F4 (PySem.W.mg_of X G a4)
  have C__law_draw : Cal l.prog w K mg base 1 "_law_draw" 2 F__law_draw := cal__law_draw T  F5 (PySem.W.mg_of X G a5)
  have C__law_all : Cal l.prog w K mg base 1 "_law_all" 1 F__law_all := cal__law_all T  F6 (PySem.W.mg_of X G a6)
  have C__law_same : Cal l.prog w K mg base 1 "_law_same" 2 F__law_same := cal__law_same T  F7 (PySem.W.mg_of X G a7)
  have C__law_is_low : Cal l.prog w K mg base 1 "_law_is_low" 1 F__law_is_low := cal__law_is_low T  F8 (PySem.W.mg_of X G a8)
  have C_is_sum : Cal l.prog w K mg base 2 "is_sum" 2 F_is_sum := cal_is_sum T C_is_integer C_are_ascending C_are_counted F9 (PySem.W.mg_of X G a9)
  have C_lowest : Cal l.prog w K mg base 2 "lowest" 2 F_lowest := cal_lowest T C_common F10 (PySem.W.mg_of X G a10)
  have C_is_part : Cal l.prog w K mg base 2 "is_part" 1 F_is_part := cal_is_part T C_is_integer C_common F11 (PySem.W.mg_of X G a11)
  have C__law_one : Cal l.prog w K mg base 2 "_law_one" 2 F__law_one := cal__law_one T C__law_draw F12 (PySem.W.mg_of X G a12)
  have C__law_sum : Cal l.prog w K mg base 2 "_law_sum" 2 F__law_sum := cal__law_sum T C__law_draw F13 (PySem.W.mg_of X G a13)
  have C_check_sum : Cal l.prog w K mg base 3 "check_sum" 1 F_check_sum := cal_check_sum T C_is_sum F14 (PySem.W.mg_of X G a14)
  have C_all_there : Cal l.prog w K mg base 3 "all_there" 2 F_all_there := cal_all_there T C_lowest F15 (PySem.W.mg_of X G a15)
  have C_added : Cal l.prog w K mg base 3 "added" 2 F_added := cal_added T C_lowest F16 (PySem.W.mg_of X G a16)
  have C_check_chances : Cal l.prog w K mg base 4 "check_chances" 2 F_check_chances := cal_check_chances T C_is_sum C_is_part C_check_sum F17 (PySem.W.mg_of X G a17)
  have C_expected_of : Cal l.prog w K mg base 4 "expected_of" 2 F_expected_of := cal_expected_of T C_all_there C_added F18 (PySem.W.mg_of X G a18)
  have C_square_of : Cal l.prog w K mg base 4 "square_of" 2 F_square_of := cal_square_of T C_all_there C_added F19 (PySem.W.mg_of X G a19)
  have C_expected : Cal l.prog w K mg base 5 "expected" 2 F_expected := cal_expected T C_check_chances C_expected_of F20 (PySem.W.mg_of X G a20)
  have C_expected_square : Cal l.prog w K mg base 5 "expected_square" 2 F_expected_square := cal_expected_square T C_check_chances C_square_of F21 (PySem.W.mg_of X G a21)
  have C_bounds : Cal l.prog w K mg base 5 "bounds" 2 F_bounds := cal_bounds T C_lowest C_check_chances C_expected_of C_square_of F22 (PySem.W.mg_of X G a22)
  have C_spread : Cal l.prog w K mg base 5 "spread" 2 F_spread := cal_spread T C_lowest C_check_chances C_expected_of C_square_of F23 (PySem.W.mg_of X G a23)
  have C__law_told : Cal l.prog w K mg base 6 "_law_told" 2 F__law_told := cal__law_told T C_expected C_expected_square C_bounds C_spread F24 (PySem.W.mg_of X G a24)
  have C__law_case : Cal l.prog w K mg base 7 "_law_case" 1 F__law_case := cal__law_case T C__law_draw C__law_all C__law_same C__law_is_low C__law_one C__law_sum C_expected C_expected_square C_bounds C_spread C__law_told F25 (PySem.W.mg_of X G a25)
  exact (law_fn T C__law_bag C_expected C_bounds C_spread C__law_told C__law_case F26).imp (law_in law_true)
end K74
end

set_option Elab.async false
set_option linter.all false
set_option maxRecDepth 100000
namespace K74
open PySem PySem.Spec L2 Mp
open PyProof.Rows hiding St mod_int startT
@[simp] theorem le_nx {τ : Tu} {h : EH} {k : SM} : loopEnd (.nx τ h) k = k τ h := rfl
@[simp] theorem le_ret {s : Sl} {h : EH} {k : SM} : loopEnd (.ret s h) k = .ret s h := rfl
theorem is_integer_eq (v lo hi : Int) (h : EH) : F_is_integer [.int v, .int lo, .int hi] h = .ok (.pu (.bl (decide (lo ≤ v) && decide (v ≤ hi)))) h := by
  show bodyEnd (m_is_integer [.pu (.int v), .pu (.int lo), .pu (.int hi)] h) = _
  simp [m_is_integer, mChain]
  cases decide (lo ≤ v) <;> simp
theorem fmod_nat (a b : Nat) : (a : Int).fmod (b : Int) = ((a % b : Nat) : Int) := by
  rw [Int.fmod_eq_emod_of_nonneg _ (by omega)]; rfl
theorem fdiv_nat (a b : Nat) : (a : Int).fdiv (b : Int) = ((a / b : Nat) : Int) := by
  rw [Int.fdiv_eq_ediv_of_nonneg _ (by omega)]; rfl
theorem gcd_step (a b : Nat) : Nat.gcd b (a % b) = Nat.gcd a b := by
  rw [Nat.gcd_comm b, ← Nat.gcd_rec, Nat.gcd_comm]
theorem common_loop (h : EH) : ∀ (n : Nat) (a b : Nat), b < n → ∃ x, whileN (mTst (mBin oNe (mPeek 1) (mLit (.int 0)))) (mSeq (mPar 0 1 (mCons (mVar 1) (mCons (fm (mBin oMod (mPeek 0) (mPeek 1))) mNil))) mNext) n [.pu (.int (a : Int)), .pu (.int (b : Int))] h = .nx [.pu (.int (Nat.gcd a b : Nat)), x] h
  | 0, _, _, hn => absurd hn (by omega)
  | n + 1, a, b, hn => by
    by_cases h0 : b = 0
    · subst h0
      refine ⟨.pu (.int 0), ?_⟩
      simp [whileN]
    · obtain ⟨x, e⟩ := common_loop h n b (a % b) (by have := Nat.mod_lt a (Nat.pos_of_ne_zero h0); omega)
      refine ⟨x, ?_⟩
      rw [← gcd_step, ← e]
      have h1 : (b : Int) ≠ 0 := by omega
      simp [whileN, h1, h0, Mp.mod_int h1, fmod_nat]
theorem common_eq (a b : Nat) (h : EH) : F_common [.int (a : Int), .int (b : Int)] h = .ok (.pu (.int (Nat.gcd a b : Nat))) h := by
  obtain ⟨x, e⟩ := common_loop h (b + 1) a b (by omega)
  have e' := while_eq (by simp) e
  show bodyEnd (m_common [.pu (.int a), .pu (.int b)] h) = _
  simp [m_common, e']
/-- a fraction, laid -/
def rt (r : Rat) : D := .tup [.int r.num, .int (r.den : Int)]
theorem rt_div (p q : Nat) (hq : q ≠ 0) : rt ((p : Rat) / (q : Rat)) = .tup [.int ((p / Nat.gcd p q : Nat) : Int), .int ((q / Nat.gcd p q : Nat) : Int)] := by
  have e : ((p : Rat) / (q : Rat)) = Rat.normalize (p : Int) q hq := by
    rw [Rat.normalize_eq_mkRat, Rat.mkRat_eq_div]; rfl
  rw [e, rt, Rat.num_normalize, Rat.den_normalize]
  rfl
theorem pylong_nat {a b : Nat} (hb : b < 2 ^ 64) : Builtin.divisionGoesByPylong (a : Int) (b : Int) = false := pylong_no (by simpa using hb)
theorem lowest_eq (p q : Nat) (hq : q ≠ 0) (hb : q < 2 ^ 64) (h : EH) : F_lowest [.int (p : Int), .int (q : Int)] h = .ok (.pu (rt ((p : Rat) / (q : Rat)))) h := by
  have hg : Nat.gcd p q ≠ 0 := by
    intro z
    exact hq (Nat.eq_zero_of_gcd_eq_zero_right z)
  have hg' : ((Nat.gcd p q : Nat) : Int) ≠ 0 := by omega
  have hl : Nat.gcd p q < 2 ^ 64 := Nat.lt_of_le_of_lt (Nat.le_of_dvd (Nat.pos_of_ne_zero hq) (Nat.gcd_dvd_right p q)) hb
  rw [rt_div p q hq]
  show bodyEnd (m_lowest [.pu (.int p), .pu (.int q), .em] h) = _
  simp [m_lowest, common_eq, Mp.div_int hg' (pylong_nat hl), fdiv_nat]
end K74

set_option Elab.async false
set_option linter.all false
set_option maxRecDepth 100000
namespace K74
open PySem PySem.Spec L2 Mp
open PyProof.Rows hiding St mod_int startT
@[simp] theorem v_eno : bodyEnd .no = .no := rfl
/-! ### typed data -/
def nD (n : Nat) : D := .int (n : Int)
def pairD (x : Nat × Nat) : D := .tup [.int (x.1 : Int), .int (x.2 : Int)]
def prodD (A : List (Nat × Nat)) : D := .tup (A.map pairD)
def itemD (x : List (Nat × Nat) × Nat) : D := .tup [prodD x.1, .int (x.2 : Int)]
def sumD (S : List (List (Nat × Nat) × Nat)) : D := .tup (S.map itemD)
theorem num_nn {a : Rat} (h : 0 ≤ a) : ∃ n : Nat, a.num = (n : Int) := ⟨a.num.toNat, by have := Rat.num_nonneg.mpr h; omega⟩
theorem rt_self (a : Rat) : (a.num : Rat) / ((a.den : Nat) : Rat) = a := by
  have := Rat.mkRat_self a
  rwa [Rat.mkRat_eq_div] at this
theorem rt_nat {a : Rat} {n : Nat} (h : a.num = (n : Int)) : (n : Rat) / ((a.den : Nat) : Rat) = a := by
  rw [← Rat.intCast_natCast, ← h]; exact rt_self a
theorem natQ {q : Nat} (h : q ≠ 0) : (q : Rat) ≠ 0 := by
  intro z
  exact h (Rat.natCast_eq_zero_iff.mp z)
theorem div_add' {a b c d : Rat} (hb : b ≠ 0) (hd : d ≠ 0) : (a * d + c * b) / (b * d) = a / b + c / d := by grind
theorem added_eq (a : Rat) (m q : Nat) (ha : 0 ≤ a) (hd : a.den < 2 ^ 32) (hq : q ≠ 0) (hq2 : q < 2 ^ 32) (h : EH) :
    F_added [rt a, .tup [.int (m : Int), .int (q : Int)]] h = .ok (.pu (rt (a + (m : Rat) / (q : Rat)))) h := by
  obtain ⟨n, hn⟩ := num_nn ha
  have e : ((n * q + m * a.den : Nat) : Rat) / ((a.den * q : Nat) : Rat) = a + (m : Rat) / (q : Rat) := by
    rw [Rat.natCast_add, Rat.natCast_mul, Rat.natCast_mul, Rat.natCast_mul, div_add' (natQ a.den_nz) (natQ hq), rt_nat hn]
  have hb : a.den * q < 2 ^ 64 := Nat.lt_of_lt_of_le (Nat.mul_lt_mul'' hd hq2) (by decide)
  have hz : a.den * q ≠ 0 := Nat.mul_ne_zero a.den_nz hq
  rw [← e, ← lowest_eq _ _ hz hb]
  show bodyEnd (m_added [.pu (rt a), .pu (.tup [.int m, .int q])] h) = _
  have h1 : ((q : Int)).natAbs < 2 ^ 64 := by simp; omega
  have h2 : ((a.den : Int)).natAbs < 2 ^ 64 := by simp; omega
  simp [m_added, rt, hn, mul_r h1, mul_r h2]
  cases F_lowest [D.int (↑n * ↑q + ↑m * ↑a.den), D.int (↑a.den * ↑q)] h <;> simp
/-! ### all rows there -/
def pOf (P : List (Nat × Nat)) (rows : List Nat) : Nat := (rows.map fun r => (P.getD r (1, 1)).1).prod
def dOf (P : List (Nat × Nat)) (rows : List Nat) : Nat := (rows.map fun r => (P.getD r (1, 1)).2).prod
/-- how likely it is that they are all there -/
def pr (P : List (Nat × Nat)) (rows : List Nat) : Rat := (pOf P rows : Rat) / (dOf P rows : Rat)
structure POk (P : List (Nat × Nat)) : Prop where
  pos : ∀ x ∈ P, x.2 ≠ 0
  le : ∀ x ∈ P, x.1 ≤ x.2
  sm : ∀ x ∈ P, x.2 < 2 ^ 64
theorem forGo_ints {t : Tt} {b : SM} {h : EH} {chk : EH → Bool} (hc : chk h = true) (I : List Nat → Tu → Prop) : ∀ (rs : List Nat) {τ : Tu}, I rs τ →
    (∀ r rs τ, I (r :: rs) τ → ∃ τ1 τ', fOf t (nD r) τ = some τ1 ∧ b τ1 h = .nx τ' h ∧ I rs τ') → ∃ τ', I [] τ' ∧ forGo chk t b (rs.map nD) τ h = .nx τ' h
  | [], τ, h0, _ => ⟨τ, h0, by simp [forGo, hc]⟩
  | r :: rs, τ, h0, st => by
    obtain ⟨τ1, τ', e1, e2, e3⟩ := st r rs τ h0
    obtain ⟨τ2, g1, g2⟩ := forGo_ints hc I rs e3 st
    exact ⟨τ2, g1, by simp [forGo, hc, e1, e2, g2]⟩
theorem atI_map {α : Type} {f : α → D} {xs : List α} {r : Nat} {x : α} (h : xs[r]? = some x) : atI (xs.map f) (r : Int) = some (f x) := atI_n (by simp [h])
theorem dOf_pos {P : List (Nat × Nat)} (hP : POk P) (rows : List Nat) : dOf P rows ≠ 0 := by
  induction rows with
  | nil => simp [dOf]
  | cons r rs ih =>
    unfold dOf at ih ⊢
    rw [List.map_cons, List.prod_cons]
    refine Nat.mul_ne_zero ?_ ih
    rw [List.getD_eq_getElem?_getD]
    cases e : P[r]? with
    | none => simp
    | some x => exact hP.pos x (List.mem_of_getElem? e)
theorem all_there_eq (P : List (Nat × Nat)) (rows : List Nat) (hP : POk P) (hr : ∀ r ∈ rows, r < P.length) (hd : dOf P rows < 2 ^ 64) (h : EH) :
    F_all_there [.lst (rows.map nD), prodD P] h = .ok (.pu (rt (pr P rows))) h := by
  have key := forGo_ints (t := .nm 4) (h := h) (chk := isAs (.lst (rows.map nD)) (.lst (rows.map nD))) (by simp)
    (b := (mSeq (mPar 2 3 (mCons (fm (mBin oMul (mPeek 2) (fm (mBin oIx (fm (mBin oIx (mPeek 1) (mPeek 4))) (mLit (.int 0)))))) (mCons (fm (mBin oMul (mPeek 3) (fm (mBin oIx (fm (mBin oIx (mPeek 1) (mPeek 4))) (mLit (.int 1)))))) mNil))) mNext))
    (fun rs τ => (∀ r ∈ rs, r < P.length) ∧ ∃ p q x, τ = [.pu (.lst (rows.map nD)), .pu (prodD P), .pu (.int (p : Nat)), .pu (.int (q : Nat)), x] ∧ p * pOf P rs = pOf P rows ∧ q * dOf P rs = dOf P rows)
    rows (τ := [.pu (.lst (rows.map nD)), .pu (prodD P), .pu (.int (1 : Nat)), .pu (.int (1 : Nat)), .em]) ⟨hr, 1, 1, _, rfl, by simp, by simp⟩ (by
      rintro r rs τ ⟨hr, p, q, x, rfl, e1, e2⟩
      have hr0 : r < P.length := hr r List.mem_cons_self
      have hx : P[r]? = some P[r] := List.getElem?_eq_getElem hr0
      have hm : P[r] ∈ P := List.getElem_mem hr0
      have hg : P.getD r (1, 1) = P[r] := by rw [List.getD_eq_getElem?_getD, hx]; rfl
      have h1 : ((P[r].1 : Nat) : Int).natAbs < 2 ^ 64 := by have := hP.le _ hm; have := hP.sm _ hm; simp; omega
      have h2 : ((P[r].2 : Nat) : Int).natAbs < 2 ^ 64 := by have := hP.sm _ hm; simp; omega
      refine ⟨_, [.pu (.lst (rows.map nD)), .pu (prodD P), .pu (.int ((p * P[r].1 : Nat) : Int)), .pu (.int ((q * P[r].2 : Nat) : Int)), .pu (nD r)], fOf_nm, ?_, ?_⟩
      · simp [prodD, nD, atI_map hx, pairD, mul_r h1, mul_r h2]
      · refine ⟨fun y hy => hr y (List.mem_cons_of_mem _ hy), _, _, _, rfl, ?_, ?_⟩
        · rw [← e1]; unfold pOf; rw [List.map_cons, List.prod_cons, hg]; grind
        · rw [← e2]; unfold dOf; rw [List.map_cons, List.prod_cons, hg]; grind)
  obtain ⟨τ', ⟨_, p, q, x, rfl, e1, e2⟩, g⟩ := key
  have e1 : p = pOf P rows := by simpa [pOf] using e1
  have e2 : q = dOf P rows := by simpa [dOf] using e2
  subst e1 e2
  show bodyEnd (m_all_there [.pu (.lst (rows.map nD)), .pu (prodD P), .em, .em, .em] h) = _
  rw [pr, ← lowest_eq _ _ (dOf_pos hP rows) hd]
  simp only [m_all_there]
  simp at g
  simp [g]
  cases F_lowest [D.int ↑(pOf P rows), D.int ↑(dOf P rows)] h <;> simp
end K74

set_option Elab.async false
set_option linter.all false
set_option maxRecDepth 100000
namespace K74
open PySem PySem.Spec L2 Mp
open PyProof.Rows hiding St mod_int startT
/-- Q clears its denominator -/
def Den (Q : Nat) (a : Rat) : Prop := ∃ N : Nat, a * (Q : Rat) = (N : Rat)
theorem Den.nn {Q : Nat} {a : Rat} (hQ : Q ≠ 0) (h : Den Q a) : 0 ≤ a := by
  obtain ⟨N, e⟩ := h
  have e2 : a = (N : Rat) / (Q : Rat) := by have := natQ hQ; grind
  rw [e2, Rat.div_def]
  exact Rat.mul_nonneg Rat.natCast_nonneg (by
    have : (0 : Rat) < (Q : Rat) := Rat.natCast_pos.mpr (Nat.pos_of_ne_zero hQ)
    exact Rat.le_of_lt (Rat.inv_pos.mpr this))
theorem Den.den {Q : Nat} {a : Rat} (hQ : Q ≠ 0) (h : Den Q a) : a.den ≤ Q := by
  obtain ⟨N, e⟩ := h
  have e2 : a = (N : Rat) / (Q : Rat) := by have := natQ hQ; grind
  have e3 : a = Rat.normalize (N : Int) Q hQ := by
    rw [Rat.normalize_eq_mkRat, Rat.mkRat_eq_div, e2]; rfl
  rw [e3, Rat.den_normalize]
  exact Nat.div_le_self _ _
theorem Den.add {Q : Nat} {a b : Rat} (ha : Den Q a) (hb : Den Q b) : Den Q (a + b) := by
  obtain ⟨N, e⟩ := ha
  obtain ⟨M, f⟩ := hb
  exact ⟨N + M, by rw [Rat.natCast_add, ← e, ← f]; grind⟩
theorem Den.mul {Q : Nat} {a : Rat} (n : Nat) (ha : Den Q a) : Den Q (n * a) := by
  obtain ⟨N, e⟩ := ha
  exact ⟨n * N, by rw [Rat.natCast_mul, ← e]; grind⟩
theorem Den.zero {Q : Nat} : Den Q 0 := ⟨0, by simp⟩
def rowsOf (A : List (Nat × Nat)) : List Nat := A.map (·.1)
/-- what it is worth, all in all -/
def ev (P : List (Nat × Nat)) (S : List (List (Nat × Nat) × Nat)) : Rat := (S.map fun x => (x.2 : Rat) * pr P (rowsOf x.1)).sum
theorem forGo_list {α : Type} {f : α → D} {t : Tt} {b : SM} {h : EH} {chk : EH → Bool} (hc : chk h = true) (I : List α → Tu → Prop) : ∀ (rs : List α) {τ : Tu}, I rs τ →
    (∀ r rs τ, I (r :: rs) τ → ∃ τ1 τ', fOf t (f r) τ = some τ1 ∧ b τ1 h = .nx τ' h ∧ I rs τ') → ∃ τ', I [] τ' ∧ forGo chk t b (rs.map f) τ h = .nx τ' h
  | [], τ, h0, _ => ⟨τ, h0, by simp [forGo, hc]⟩
  | r :: rs, τ, h0, st => by
    obtain ⟨τ1, τ', e1, e2, e3⟩ := st r rs τ h0
    obtain ⟨τ2, g1, g2⟩ := forGo_list hc I rs e3 st
    exact ⟨τ2, g1, by simp [forGo, hc, e1, e2, g2]⟩
structure SOk (P : List (Nat × Nat)) (Q : Nat) (rows : List Nat) : Prop where
  row : ∀ r ∈ rows, r < P.length
  d : dOf P rows < 2 ^ 64
  q : Den Q (pr P rows)
theorem pr_num {P : List (Nat × Nat)} {rows : List Nat} {Q n : Nat} (hQ : Q ≠ 0) (hs : SOk P Q rows) : ∃ m : Nat, (pr P rows).num = (m : Int) ∧ ((n * m : Nat) : Rat) / (((pr P rows).den : Nat) : Rat) = (n : Rat) * pr P rows := by
  obtain ⟨m, hm⟩ := num_nn (hs.q.nn hQ)
  refine ⟨m, hm, ?_⟩
  rw [Rat.natCast_mul, Rat.div_def, Rat.mul_assoc, ← Rat.div_def, rt_nat hm]
theorem rows_lc (A : List (Nat × Nat)) (τ : Tu) (h : EH) (i j : Nat) (chk : EH → Bool) (hc : chk h = true) (hij : i ≠ j) (hi : i < τ.length) :
    lcGo chk (lcB (.tp (.cons (.nm i) (.cons (.nm j) .nil))) τ mYes (mVar i)) (A.map pairD) h = .ok ((rowsOf A).map nD) h := by
  rw [lc_map hc (f := fun d => match d with
    | .tup [x, _] => [x]
    | _ => [])]
  · congr 1
    induction A with
    | nil => rfl
    | cons a A ih => simp [pairD, rowsOf, nD] at ih ⊢; exact ih
  · intro d hd
    obtain ⟨x, _, rfl⟩ := List.mem_map.mp hd
    simp [lcB, pairD, List.getElem?_set, hij, hij.symm, hi]
theorem ev_cons (P : List (Nat × Nat)) (x : List (Nat × Nat) × Nat) (S : List (List (Nat × Nat) × Nat)) : ev P (x :: S) = (x.2 : Rat) * pr P (rowsOf x.1) + ev P S := by simp [ev]
theorem expected_of_eq (P : List (Nat × Nat)) (S : List (List (Nat × Nat) × Nat)) (Q : Nat) (hP : POk P) (hQ : Q ≠ 0) (hQ2 : Q < 2 ^ 32) (hS : ∀ x ∈ S, SOk P Q (rowsOf x.1) ∧ x.2 < 2 ^ 64 ∧ x.1.length ≤ 40) (h : EH) :
    F_expected_of [sumD S, prodD P] h = .ok (.pu (rt (ev P S))) h := by
  have key := forGo_list (f := itemD) (t := .tp (.cons (.nm 3) (.cons (.nm 4) .nil))) (h := h) (chk := isAs (sumD S) (sumD S)) (by simp [sumD])
    (b := (mSeq (mAsg (.tp (.cons (.nm 5) (.cons (.nm 6) .nil))) (fm (mOwn F_all_there (mCons (fm (mLc (mWalk (mPeek 3)) (.tp (.cons (.nm 7) (.cons (.nm 8) .nil))) [7, 8] mYes (mVar 7))) (mCons (mVar 1) mNil)))))
    (mSeq (mSet 2 (mOwn F_added (mCons (mVar 2) (mCons (mTup (mCons (fm (mBin oMul (mPeek 4) (mPeek 5))) (mCons (mVar 6) mNil))) mNil))))
    mNext)))
    (fun R τ => (∀ x ∈ R, SOk P Q (rowsOf x.1) ∧ x.2 < 2 ^ 64 ∧ x.1.length ≤ 40) ∧ ∃ a x3 x4 x5 x6 x7 x8, τ = [.pu (sumD S), .pu (prodD P), .pu (rt a), x3, x4, x5, x6, x7, x8] ∧ Den Q a ∧ a + ev P R = ev P S)
    S (τ := [.pu (sumD S), .pu (prodD P), .pu (rt 0), .em, .em, .em, .em, .em, .em]) ⟨hS, 0, _, _, _, _, _, _, rfl, .zero, by grind⟩ (by
      rintro ⟨A, n⟩ R τ ⟨hR, a, x3, x4, x5, x6, x7, x8, rfl, qa, es⟩
      obtain ⟨hs, hn, hl⟩ := hR _ List.mem_cons_self
      obtain ⟨m, hm, em⟩ := pr_num (n := n) hQ hs
      have h1 : ((n : Int)).natAbs < 2 ^ 64 := by simpa using hn
      refine ⟨[.pu (sumD S), .pu (prodD P), .pu (rt a), .pu (prodD A), .pu (nD n), x5, x6, x7, x8], [.pu (sumD S), .pu (prodD P), .pu (rt (a + n * pr P (rowsOf A))), .pu (prodD A), .pu (nD n), .pu (.int (m : Int)), .pu (.int ((pr P (rowsOf A)).den : Nat)), x7, x8], ?_, ?_, ?_⟩
      · simp [itemD, nD]
      · have ea := added_eq a (n * m) (pr P (rowsOf A)).den (qa.nn hQ) (Nat.lt_of_le_of_lt (qa.den hQ) hQ2) (Rat.den_nz _) (Nat.lt_of_le_of_lt (hs.q.den hQ) hQ2) h
        rw [em] at ea
        have hl' : (rowsOf A).length ≤ L := by simp [rowsOf]; exact Nat.le_trans hl (by decide)
        simp [prodD, rows_lc, wipeT, lcEnd_ok, hl']
        rw [show D.tup (P.map pairD) = prodD P from rfl, all_there_eq P _ hP hs.row hs.d]
        simp [rt, hm, nD, mul_l h1]
        simp [rt] at ea
        rw [ea]
        simp
      · exact ⟨fun x hx => hR x (List.mem_cons_of_mem _ hx), _, _, _, _, _, _, _, rfl, qa.add (hs.q.mul n), by rw [← es, ev_cons]; grind⟩)
  obtain ⟨τ', ⟨_, a, x3, x4, x5, x6, x7, x8, rfl, qa, es⟩, g⟩ := key
  have ea : a = ev P S := by rw [← es]; simp [ev, Rat.add_zero]
  subst ea
  show bodyEnd (m_expected_of [.pu (sumD S), .pu (prodD P), .em, .em, .em, .em, .em, .em, .em] h) = _
  simp only [m_expected_of]
  simp [sumD, rt] at g ⊢
  simp [g]
end K74

set_option Elab.async false
set_option linter.all false
set_option maxRecDepth 100000
namespace K74
open PySem PySem.Spec L2 Mp
open PyProof.Rows hiding St mod_int startT pairsOf allFlat
/-! ### dicts, typed -/
def aput {α β : Type} [DecidableEq α] (A : List (α × β)) (k : α) (v : β) : List (α × β) := if A.any (fun e => decide (e.1 = k)) = true then A.map (fun e => if e.1 = k then (e.1, v) else e) else A ++ [(k, v)]
theorem dput_map {α β : Type} [DecidableEq α] {f : α → D} {g : β → D} (hf : ∀ a b, f a = f b → a = b) (A : List (α × β)) (k : α) (v : β) :
    dput (A.map fun e => (f e.1, g e.2)) (f k) (g v) = (aput A k v).map fun e => (f e.1, g e.2) := by
  have hi : ∀ a, f a = f k ↔ a = k := fun a => ⟨hf a k, fun e => by rw [e]⟩
  unfold dput aput
  simp only [List.any_map, Function.comp_def, hi]
  split
  · simp only [List.map_map, Function.comp_def, hi]
    congr 1
    funext e
    split <;> simp_all
  · simp
theorem aput_mem {α β : Type} [DecidableEq α] {A : List (α × β)} {k : α} {v : β} {a : α} : a ∈ (aput A k v).map (·.1) ↔ a = k ∨ a ∈ A.map (·.1) := by
  unfold aput
  split
  · rename_i h
    have e : (A.map (fun e => if e.1 = k then (e.1, v) else e)).map (·.1) = A.map (·.1) := by
      rw [List.map_map]
      congr 1
      funext e
      simp only [Function.comp_def]
      split <;> rfl
    rw [e]
    refine ⟨.inr, fun q => ?_⟩
    rcases q with rfl | q
    · simp only [List.any_eq_true, decide_eq_true_eq] at h
      obtain ⟨x, hx, rfl⟩ := h
      exact List.mem_map_of_mem hx
    · exact q
  · simp only [List.map_append, List.mem_append, List.map_cons, List.map_nil, List.mem_singleton]
    exact or_comm
theorem aput_nodup {α β : Type} [DecidableEq α] {A : List (α × β)} {k : α} {v : β} (h : (A.map (·.1)).Nodup) : ((aput A k v).map (·.1)).Nodup := by
  unfold aput
  split
  · have e : (A.map (fun e => if e.1 = k then (e.1, v) else e)).map (·.1) = A.map (·.1) := by
      rw [List.map_map]
      congr 1
      funext e
      simp only [Function.comp_def]
      split <;> rfl
    rw [e]; exact h
  · rename_i hn
    simp only [List.any_eq_true, decide_eq_true_eq, not_exists, not_and] at hn
    rw [List.map_append, List.nodup_append]
    refine ⟨h, by simp, ?_⟩
    intro a ha b hb
    simp at hb
    obtain ⟨x, hx, rfl⟩ := List.mem_map.mp ha
    rw [hb]
    exact hn x hx
theorem aput_len {α β : Type} [DecidableEq α] {A : List (α × β)} {k : α} {v : β} : (aput A k v).length ≤ A.length + 1 := by
  unfold aput
  split <;> simp
theorem aput_val {α β : Type} [DecidableEq α] {A : List (α × β)} {k : α} {v : β} {e : α × β} (h : e ∈ aput A k v) : e = (k, v) ∨ e ∈ A := by
  unfold aput at h
  split at h
  · obtain ⟨x, hx, rfl⟩ := List.mem_map.mp h
    by_cases q : x.1 = k
    · left; rw [if_pos q]; rw [← q]
    · right; rw [if_neg q]; exact hx
  · rcases List.mem_append.mp h with h | h
    · exact .inr h
    · exact .inl (by simpa using h)
def aputs {α β : Type} [DecidableEq α] (es A : List (α × β)) : List (α × β) := es.foldl (fun acc e => aput acc e.1 e.2) A
theorem dictOf_map {α β : Type} [DecidableEq α] {f : α → D} {g : β → D} (hf : ∀ a b, f a = f b → a = b) : ∀ (es A : List (α × β)), dictOf (es.map fun e => (f e.1, g e.2)) (A.map fun e => (f e.1, g e.2)) = (aputs es A).map fun e => (f e.1, g e.2)
  | [], A => rfl
  | e :: es, A => by
    show dictOf (es.map fun e => (f e.1, g e.2)) (dput (A.map fun e => (f e.1, g e.2)) (f e.1) (g e.2)) = _
    rw [dput_map hf, dictOf_map hf es]
    rfl
theorem aputs_mem {α β : Type} [DecidableEq α] {a : α} : ∀ (es A : List (α × β)), a ∈ (aputs es A).map (·.1) ↔ a ∈ es.map (·.1) ∨ a ∈ A.map (·.1)
  | [], A => by simp [aputs]
  | e :: es, A => by
    show a ∈ (aputs es (aput A e.1 e.2)).map (·.1) ↔ _
    rw [aputs_mem es, aput_mem, List.map_cons, List.mem_cons]
    grind
theorem aputs_nodup {α β : Type} [DecidableEq α] : ∀ (es A : List (α × β)), (A.map (·.1)).Nodup → ((aputs es A).map (·.1)).Nodup
  | [], A, h => h
  | e :: es, A, h => aputs_nodup es _ (aput_nodup h)
theorem aputs_len {α β : Type} [DecidableEq α] : ∀ (es A : List (α × β)), (aputs es A).length ≤ es.length + A.length
  | [], A => by simp [aputs]
  | e :: es, A => by
    have := aputs_len es (aput A e.1 e.2)
    have := aput_len (A := A) (k := e.1) (v := e.2)
    show (aputs es (aput A e.1 e.2)).length ≤ _
    simp only [List.length_cons]
    omega
theorem nD_inj : ∀ a b, nD a = nD b → a = b := by
  intro a b h
  simp only [nD, D.int.injEq] at h
  omega
def pkD (e : Nat × Nat) : D × D := (nD e.1, nD e.2)
theorem pairsOf_pairs : ∀ A : List (Nat × Nat), pairsOf (A.map pairD) = some (A.map fun e => (nD e.1, nD e.2))
  | [] => rfl
  | a :: A => by simp [pairsOf, pairD, pairsOf_pairs A, nD]
theorem allFlat_pairs (A : List (Nat × Nat)) : allFlat (A.map fun e => (nD e.1, nD e.2)) = true := by
  unfold allFlat
  simp [isFlat, nD, fkey, okd_int]
theorem gDict_pairs (A : List (Nat × Nat)) (h : EH) : gDict h [.tup (A.map pairD)] = some (.ow (.dct ((aputs A []).map fun e => (nD e.1, nD e.2)))) := by
  unfold gDict
  simp only [der_tup, pairsOf_pairs, allFlat_pairs, Bool.true_or, if_true]
  have := dictOf_map (f := nD) (g := nD) nD_inj A []
  rw [List.map_nil] at this
  rw [this]
/-! ### sorting -/
theorem pd_int (i : Int) : D.pd (.int i) = .int i := by simp [D.pd]
theorem pds_eq : ∀ ds : List D, D.pds ds = ds.map D.pd
  | [] => by simp [D.pds]
  | d :: ds => by simp [D.pds, pds_eq ds]
theorem sortOk_nats (ks : List Nat) (hl : ks.length ≤ L) : SortOk (ks.map nD) := by
  refine ⟨by simpa using hl, ?_, ?_, .inr ?_⟩
  · intro d hd
    obtain ⟨k, _, rfl⟩ := List.mem_map.mp hd
    exact okd_int
  · intro x hx y hy
    obtain ⟨d, hd, rfl⟩ := List.mem_map.mp hx
    obtain ⟨e, he, rfl⟩ := List.mem_map.mp hy
    obtain ⟨k, _, rfl⟩ := List.mem_map.mp hd
    obtain ⟨l, _, rfl⟩ := List.mem_map.mp he
    simp [nD, D.pd, PySem.W.alike]
  · intro x hx
    obtain ⟨d, hd, rfl⟩ := List.mem_map.mp hx
    obtain ⟨k, _, rfl⟩ := List.mem_map.mp hd
    simp [nD, D.pd]
theorem perm_map {α β : Type} {f : α → β} {g : β → α} (hg : ∀ a, g (f a) = a) {l : List β} {m : List α} (h : l.Perm (m.map f)) : l = (l.map g).map f ∧ (l.map g).Perm m := by
  constructor
  · rw [List.map_map]
    conv => lhs; rw [← List.map_id l]
    apply List.map_congr_left
    intro x hx
    obtain ⟨a, _, rfl⟩ := List.mem_map.mp (h.mem_iff.mp hx)
    simp [hg]
  · have := h.map g
    rw [List.map_map] at this
    have e : m.map (g ∘ f) = m := by
      conv => rhs; rw [← List.map_id m]
      apply List.map_congr_left
      intro x _
      simp [hg]
    rwa [e] at this
def unD (d : D) : Nat := match d with
  | .int i => i.toNat
  | _ => 0
theorem sort_nats (ks : List Nat) : ∃ ks' : List Nat, sortD (ks.map nD) = ks'.map nD ∧ ks'.Perm ks := by
  have h : (sortD (ks.map nD)).Perm (ks.map nD) := List.mergeSort_perm _ _
  have := perm_map (g := unD) (f := nD) (fun a => by simp [unD, nD]) h
  exact ⟨_, this.1, this.2⟩
/-- the rows of two products -/
def un (A B : List (Nat × Nat)) : List Nat := rowsOf (aputs (A ++ B) [])
theorem un_mem {A B : List (Nat × Nat)} {r : Nat} : r ∈ un A B ↔ r ∈ rowsOf A ∨ r ∈ rowsOf B := by
  unfold un rowsOf
  rw [aputs_mem]
  simp
theorem un_nodup (A B : List (Nat × Nat)) : (un A B).Nodup := aputs_nodup _ _ (by simp)
theorem pOf_perm {P : List (Nat × Nat)} {l m : List Nat} (h : l.Perm m) : pOf P l = pOf P m := by
  unfold pOf
  induction h with
  | nil => rfl
  | cons x h ih => simp only [List.map_cons, List.prod_cons, ih]
  | swap x y l => simp only [List.map_cons, List.prod_cons]; grind
  | trans _ _ a b => exact a.trans b
theorem dOf_perm {P : List (Nat × Nat)} {l m : List Nat} (h : l.Perm m) : dOf P l = dOf P m := by
  unfold dOf
  induction h with
  | nil => rfl
  | cons x h ih => simp only [List.map_cons, List.prod_cons, ih]
  | swap x y l => simp only [List.map_cons, List.prod_cons]; grind
  | trans _ _ a b => exact a.trans b
theorem pr_perm {P : List (Nat × Nat)} {l m : List Nat} (h : l.Perm m) : pr P l = pr P m := by rw [pr, pr, pOf_perm h, dOf_perm h]
theorem add_prod (A B : List (Nat × Nat)) (hA : A.length ≤ 40) (hB : B.length ≤ 40) (h : EH) : oAdd h (prodD A) (prodD B) = some (.pu (.tup ((A ++ B).map pairD))) := by
  have hl : (A.map pairD).length + (B.map pairD).length ≤ L := by simp only [List.length_map, L]; omega
  unfold prodD oAdd
  simp only [if_pos hl, List.map_append]
theorem rows_sorted (A B : List (Nat × Nat)) (hA : A.length ≤ 40) (hB : B.length ≤ 40) (h : EH) : ∃ rows : List Nat, rows.Perm (un A B) ∧
    gSorted h [.dct ((aputs (A ++ B) []).map fun e => (nD e.1, nD e.2))] = some (.ow (.lst (rows.map nD))) := by
  obtain ⟨rows, e, p⟩ := sort_nats (un A B)
  refine ⟨rows, p, ?_⟩
  unfold gSorted
  have hk : ((aputs (A ++ B) []).map fun e => (nD e.1, nD e.2)).map (·.1) = (un A B).map nD := by simp [un, rowsOf]
  have hl : (un A B).length ≤ L := by
    have := aputs_len (A ++ B) []
    simp only [un, rowsOf, List.length_map, List.length_append, List.length_nil] at this ⊢
    simp only [L]
    omega
  have so := sortOk_nats _ hl
  rw [← hk] at so e
  simp only [der_dc]
  rw [if_pos so, e]
end K74

set_option Elab.async false
set_option linter.all false
set_option maxRecDepth 100000
namespace K74
open PySem PySem.Spec L2 Mp
open PyProof.Rows hiding St mod_int startT pairsOf allFlat
/-- the square's worth: one product, then another -/
def sq1 (P : List (Nat × Nat)) (A : List (Nat × Nat)) (n : Nat) (S : List (List (Nat × Nat) × Nat)) : Rat := (S.map fun y => ((n * y.2 : Nat) : Rat) * pr P (un A y.1)).sum
def sq (P : List (Nat × Nat)) (S S' : List (List (Nat × Nat) × Nat)) : Rat := (S'.map fun x => sq1 P x.1 x.2 S).sum
theorem sq1_cons (P : List (Nat × Nat)) (A : List (Nat × Nat)) (n : Nat) (y : List (Nat × Nat) × Nat) (S : List (List (Nat × Nat) × Nat)) : sq1 P A n (y :: S) = ((n * y.2 : Nat) : Rat) * pr P (un A y.1) + sq1 P A n S := by simp [sq1]
theorem sq_cons (P : List (Nat × Nat)) (S : List (List (Nat × Nat) × Nat)) (x : List (Nat × Nat) × Nat) (S' : List (List (Nat × Nat) × Nat)) : sq P S (x :: S') = sq1 P x.1 x.2 S + sq P S S' := by simp [sq]
theorem SOk.perm {P : List (Nat × Nat)} {Q : Nat} {l m : List Nat} (h : l.Perm m) (s : SOk P Q m) : SOk P Q l := ⟨fun r hr => s.row r (h.mem_iff.mp hr), by rw [dOf_perm h]; exact s.d, by rw [pr_perm h]; exact s.q⟩
noncomputable def inner : SM := (mSeq (mSet 7 (mCall gSorted (mCons (fm (mCall gDict (mCons (fm (mBin oAdd (mPeek 3) (mPeek 5))) mNil))) mNil)))
    (mSeq (mShare 7 (mAsg (.tp (.cons (.nm 8) (.cons (.nm 9) .nil))) (fm (mOwn F_all_there (mCons (mVar 7) (mCons (mVar 1) mNil))))))
    (mSeq (mSet 2 (mOwn F_added (mCons (mVar 2) (mCons (mTup (mCons (fm (mBin oMul (fm (mBin oMul (mPeek 4) (mPeek 6))) (mPeek 8))) (mCons (mVar 9) mNil))) mNil))))
    mNext)))
def SqOk (P : List (Nat × Nat)) (Q : Nat) (S : List (List (Nat × Nat) × Nat)) : Prop := ∀ x ∈ S, x.2 < 2 ^ 32 ∧ x.1.length ≤ 40 ∧ ∀ y ∈ S, SOk P Q (un x.1 y.1)
theorem inner_eq (P : List (Nat × Nat)) (S : List (List (Nat × Nat) × Nat)) (Q : Nat) (hP : POk P) (hQ : Q ≠ 0) (hQ2 : Q < 2 ^ 32) (A B : List (Nat × Nat)) (n m : Nat) (a : Rat) (x7 x8 x9 : Sl) (h : EH)
    (hA : A.length ≤ 40) (hB : B.length ≤ 40) (hn : n < 2 ^ 32) (hm : m < 2 ^ 32) (hs : SOk P Q (un A B)) (qa : Den Q a) :
    ∃ y7 y8 y9, inner [.pu (sumD S), .pu (prodD P), .pu (rt a), .pu (prodD A), .pu (nD n), .pu (prodD B), .pu (nD m), x7, x8, x9] h = .nx [.pu (sumD S), .pu (prodD P), .pu (rt (a + ((n * m : Nat) : Rat) * pr P (un A B))), .pu (prodD A), .pu (nD n), .pu (prodD B), .pu (nD m), y7, y8, y9] h := by
  obtain ⟨rows, hp, e2⟩ := rows_sorted A B hA hB h
  have e1 := add_prod A B hA hB h
  have hs' := hs.perm hp
  obtain ⟨u, hu, em⟩ := pr_num (n := n * m) hQ hs'
  have ea := added_eq a (n * m * u) (pr P rows).den (qa.nn hQ) (Nat.lt_of_le_of_lt (qa.den hQ) hQ2) (Rat.den_nz _) (Nat.lt_of_le_of_lt (hs'.q.den hQ) hQ2) h
  rw [em] at ea
  have hnm : n * m < 2 ^ 64 := Nat.lt_of_lt_of_le (Nat.mul_lt_mul'' hn hm) (by decide)
  have h1 : ((n : Int)).natAbs < 2 ^ 64 := by simp; omega
  have h2 : ((n : Int) * (m : Int)).natAbs < 2 ^ 64 := by rw [← Int.natCast_mul, Int.natAbs_natCast]; exact hnm
  rw [← pr_perm hp]
  refine ⟨.pu (.lst (rows.map nD)), .pu (.int u), .pu (.int (pr P rows).den), ?_⟩
  simp only [List.map_append] at e1
  have e3 := gDict_pairs (A ++ B) h
  rw [List.map_append] at e3
  simp [inner, e1, e3, e2, share, all_there_eq P rows hP hs'.row hs'.d]
  simp [rt, nD, hu, mul_l h1, mul_l h2] at ea ⊢
  rw [ea]
  simp
theorem sq1_den {P : List (Nat × Nat)} {Q : Nat} {A : List (Nat × Nat)} {n : Nat} : ∀ (S : List (List (Nat × Nat) × Nat)), (∀ y ∈ S, SOk P Q (un A y.1)) → Den Q (sq1 P A n S)
  | [], _ => .zero
  | y :: S, hS => by
    rw [sq1_cons]
    exact ((hS y List.mem_cons_self).q.mul _).add (sq1_den S fun y hy => hS y (List.mem_cons_of_mem _ hy))
theorem square_of_eq (P : List (Nat × Nat)) (S : List (List (Nat × Nat) × Nat)) (Q : Nat) (hP : POk P) (hQ : Q ≠ 0) (hQ2 : Q < 2 ^ 32) (hS : SqOk P Q S) (h : EH) :
    F_square_of [sumD S, prodD P] h = .ok (.pu (rt (sq P S S))) h := by
  have inn := fun (A : List (Nat × Nat)) (n : Nat) (hA : A.length ≤ 40) (hn : n < 2 ^ 32) (hs : ∀ y ∈ S, SOk P Q (un A y.1)) (a0 : Rat) (q0 : Den Q a0) (z5 z6 z7 z8 z9 : Sl) => forGo_list (f := itemD) (t := .tp (.cons (.nm 5) (.cons (.nm 6) .nil))) (h := h) (chk := isAs (sumD S) (sumD S)) (by simp [sumD]) (b := inner)
    (fun R τ => (∀ x ∈ R, x ∈ S) ∧ ∃ a x5 x6 x7 x8 x9, τ = [.pu (sumD S), .pu (prodD P), .pu (rt a), .pu (prodD A), .pu (nD n), x5, x6, x7, x8, x9] ∧ Den Q a ∧ a + sq1 P A n R = a0 + sq1 P A n S)
    S (τ := [.pu (sumD S), .pu (prodD P), .pu (rt a0), .pu (prodD A), .pu (nD n), z5, z6, z7, z8, z9]) ⟨fun x hx => hx, a0, _, _, _, _, _, rfl, q0, rfl⟩ (by
      rintro ⟨B, m⟩ R τ ⟨hR, a, x5, x6, x7, x8, x9, rfl, qa, es⟩
      have hb := hR _ List.mem_cons_self
      obtain ⟨hm, hB, _⟩ := hS _ hb
      obtain ⟨y7, y8, y9, e⟩ := inner_eq P S Q hP hQ hQ2 A B n m a x7 x8 x9 h hA hB hn hm (hs _ hb) qa
      exact ⟨[.pu (sumD S), .pu (prodD P), .pu (rt a), .pu (prodD A), .pu (nD n), .pu (prodD B), .pu (nD m), x7, x8, x9], _, by simp [itemD, nD], e, fun x hx => hR x (List.mem_cons_of_mem _ hx), _, _, _, _, _, _, rfl, qa.add ((hs _ hb).q.mul (n * m)), by rw [← es, sq1_cons]; grind⟩)
  have key := forGo_list (f := itemD) (t := .tp (.cons (.nm 3) (.cons (.nm 4) .nil))) (h := h) (chk := isAs (sumD S) (sumD S)) (by simp [sumD])
    (b := (mSeq (mFor (mWalk (mVar 0)) (.tp (.cons (.nm 5) (.cons (.nm 6) .nil))) inner) mNext))
    (fun R τ => (∀ x ∈ R, x ∈ S) ∧ ∃ a x3 x4 x5 x6 x7 x8 x9, τ = [.pu (sumD S), .pu (prodD P), .pu (rt a), x3, x4, x5, x6, x7, x8, x9] ∧ Den Q a ∧ a + sq P S R = sq P S S)
    S (τ := [.pu (sumD S), .pu (prodD P), .pu (rt 0), .em, .em, .em, .em, .em, .em, .em]) ⟨fun x hx => hx, 0, _, _, _, _, _, _, _, rfl, .zero, by grind⟩ (by
      rintro ⟨A, n⟩ R τ ⟨hR, a, x3, x4, x5, x6, x7, x8, x9, rfl, qa, es⟩
      have ha := hR _ List.mem_cons_self
      obtain ⟨hn, hA, hs⟩ := hS _ ha
      obtain ⟨τ', ⟨_, b, y5, y6, y7, y8, y9, rfl, qb, eb⟩, g⟩ := inn A n hA hn hs a qa x5 x6 x7 x8 x9
      refine ⟨[.pu (sumD S), .pu (prodD P), .pu (rt a), .pu (prodD A), .pu (nD n), x5, x6, x7, x8, x9], [.pu (sumD S), .pu (prodD P), .pu (rt b), .pu (prodD A), .pu (nD n), y5, y6, y7, y8, y9], by simp [itemD, nD], ?_, fun x hx => hR x (List.mem_cons_of_mem _ hx), b, _, _, _, _, _, _, _, rfl, qb, ?_⟩
      · simp [sumD] at g ⊢
        simp [g]
      · rw [← es, sq_cons]
        simp only [show sq1 P A n [] = 0 from rfl] at eb
        grind)
  obtain ⟨τ', ⟨_, a, x3, x4, x5, x6, x7, x8, x9, rfl, qa, es⟩, g⟩ := key
  have ea : a = sq P S S := by rw [← es]; simp [sq, Rat.add_zero]
  subst ea
  show bodyEnd (m_square_of [.pu (sumD S), .pu (prodD P), .em, .em, .em, .em, .em, .em, .em, .em] h) = _
  simp only [m_square_of]
  simp only [inner] at g
  simp [sumD, rt] at g ⊢
  simp [g]
end K74

set_option Elab.async false
set_option linter.all false
set_option maxRecDepth 100000
namespace K74
open PySem PySem.Spec L2 Mp
open PyProof.Rows hiding St mod_int startT pairsOf allFlat cutD
theorem forGo_ds {t : Tt} {b : SM} {h : EH} {chk : EH → Bool} (hc : chk h = true) (I : List D → Tu → Prop) (ds : List D) {τ : Tu} (h0 : I ds τ)
    (st : ∀ r rs τ, I (r :: rs) τ → ∃ τ1 τ', fOf t r τ = some τ1 ∧ b τ1 h = .nx τ' h ∧ I rs τ') : ∃ τ', I [] τ' ∧ forGo chk t b ds τ h = .nx τ' h := by
  have := forGo_list (f := id) hc I ds h0 st
  rwa [List.map_id] at this
theorem are_counted_eq (ds : List D) (hd : ∀ d ∈ ds, ∃ e n, d = .tup [e, nD n] ∧ 1 ≤ n) (h : EH) : F_are_counted [.tup ds] h = .ok (.pu (.bl true)) h := by
  have key := forGo_ds (h := h) (chk := isAs (.tup ds) (.tup ds)) (t := .nm 1) (by simp) (b := (mSeq (mIf (mOrT (mNotT (mTru (fm (mCall gIsi (mCons (mPeek 1) (mCons (mLit (.ty "tuple")) mNil)))))) (mTst (mBin oNe (fm (mCall gLen (mCons (mPeek 1) mNil))) (mLit (.int 2)))))
      (mSeq (mRet (pm (mLit (.bl false))))
    mNext)
      mNext)
    (mSeq (mIf (mOrT (mNotT (mTru (fm (mCall gIsi (mCons (fm (mBin oIx (mPeek 1) (mLit (.int 1)))) (mCons (mLit (.ty "int")) mNil)))))) (mOrT (mTru (fm (mCall gIsi (mCons (fm (mBin oIx (mPeek 1) (mLit (.int 1)))) (mCons (mLit (.ty "bool")) mNil))))) (mTst (mBin oLt (fm (mBin oIx (mPeek 1) (mLit (.int 1)))) (mLit (.int 1))))))
      (mSeq (mRet (pm (mLit (.bl false))))
    mNext)
      mNext)
    mNext))) (fun R τ => (∀ d ∈ R, ∃ e n, d = .tup [e, nD n] ∧ 1 ≤ n) ∧ ∃ x, τ = [.pu (.tup ds), x]) ds (τ := [.pu (.tup ds), .em]) ⟨hd, _, rfl⟩ (by
      rintro r rs τ ⟨hR, x, rfl⟩
      obtain ⟨e, n, rfl, hn⟩ := hR _ List.mem_cons_self
      refine ⟨[.pu (.tup ds), .pu (.tup [e, nD n])], [.pu (.tup ds), .pu (.tup [e, nD n])], by simp, ?_, fun d q => hR d (List.mem_cons_of_mem _ q), _, rfl⟩
      have h1 : ¬ ((n : Int) < 1) := by omega
      have h2 : n ≠ 0 := by omega
      simp [nD, h1, h2])
  obtain ⟨τ', ⟨_, x, rfl⟩, g⟩ := key
  show bodyEnd (m_are_counted [.pu (.tup ds), .em] h) = _
  simp only [m_are_counted]
  simp [g]
theorem blsOf_all : ∀ bs : List Bool, blsOf (bs.map D.bl) = some bs
  | [] => rfl
  | b :: bs => by simp [blsOf, blsOf_all bs]
theorem gAll_lst (bs : List Bool) (h : EH) : gAll h [.lst (bs.map D.bl)] = some (.pu (.bl (bs.all id))) := by
  simp [gAll, blsOf_all]
theorem zipD_mem : ∀ (as bs : List D) (d : D), d ∈ zipD as bs → ∃ p ∈ as.zip bs, d = .tup [p.1, p.2] := by
  intro as bs d h
  rw [zipD_eq] at h
  obtain ⟨p, hp, rfl⟩ := List.mem_map.mp h
  exact ⟨p, hp, rfl⟩
theorem adj_of {R : D → D → Prop} : ∀ {ds : List D}, ds.Pairwise R → ∀ p ∈ ds.zip (ds.drop 1), R p.1 p.2
  | [], _, p, hp => by simp at hp
  | [a], _, p, hp => by simp at hp
  | a :: b :: ds, h, p, hp => by
    rw [List.drop_one, List.tail_cons, List.zip_cons_cons, List.mem_cons] at hp
    rcases hp with rfl | hp
    · exact (List.pairwise_cons.mp h).1 b List.mem_cons_self
    · exact adj_of (List.pairwise_cons.mp h).2 p (by rw [List.drop_one]; exact hp)
def Lt (a b : D) : Prop := ordOk a b = true ∧ PySem.W.dataLt a.pd b.pd = true
theorem ascending_eq (ds : List D) (hl : ds.length ≤ L) (hd : ds.Pairwise Lt) (h : EH) : F_are_ascending [.lst ds] h = .ok (.pu (.bl true)) h := by
  have hz := adj_of hd
  have hc : slB (.lst ds) (some 1) none = some (.ow (.lst (ds.drop 1))) := by
    have h1 : HT.sIx ds.length 0 (some 1) = min 1 ds.length := HT.sIx_nat _ _ 1
    have h2 : HT.sIx ds.length ds.length none = ds.length := rfl
    have h3 : ds.drop (min 1 ds.length) = ds.drop 1 := by
      cases ds with
      | nil => rfl
      | cons a r => rw [show min 1 (a :: r).length = 1 by simp]
    unfold slB Mp.cutD
    simp only [h1, h2, h3]
    rw [List.take_of_length_le (by rw [List.length_drop]; omega)]
  rw [List.drop_one] at hz hc
  have e1 : lcGo (fun _ => true) (lcB (.tp (.cons (.nm 1) (.cons (.nm 2) .nil))) (wipeT [.pu (.lst ds), .em, .em] [1, 2]) mYes (fm (mBin oLt (mPeek 1) (mPeek 2)))) (zipD ds ds.tail) h = .ok ((zipD ds ds.tail).flatMap fun _ => [.bl true]) h := by
    refine lc_map rfl _ fun d hd => ?_
    obtain ⟨p, hp, rfl⟩ := zipD_mem _ _ _ hd
    obtain ⟨o, l⟩ := hz p hp
    simp [lcB, wipeT, oLt, o, l]
  have e2 : (zipD ds ds.tail).flatMap (fun _ => [D.bl true]) = (List.replicate (zipD ds ds.tail).length true).map D.bl := by
    generalize zipD ds ds.tail = zs
    induction zs with
    | nil => rfl
    | cons z zs ih => simp [List.replicate_succ] at ih ⊢; exact ih
  have hl2 : (zipD ds ds.tail).length ≤ L := by rw [zipD_eq, List.length_map, List.length_zip, List.length_tail]; omega
  rw [e2] at e1
  show bodyEnd (m_are_ascending [.pu (.lst ds), .em, .em] h) = _
  simp [m_are_ascending, mSl, mPart, mNoPart, hc, mZip, zipB, e1]
  rw [lcEnd_ok (by simpa using hl2)]
  simp
  rw [← List.map_replicate, gAll_lst]
  simp
/-- a sum of rows below many -/
structure Val (S : List (List (Nat × Nat) × Nat)) (many : Nat) : Prop where
  m40 : many ≤ 40
  len : S.length ≤ 2000
  cnt : ∀ x ∈ S, 1 ≤ x.2
  tim : ∀ x ∈ S, ∀ e ∈ x.1, 1 ≤ e.2
  row : ∀ x ∈ S, ∀ r ∈ rowsOf x.1, r < many
  asc : ∀ x ∈ S, (rowsOf x.1).Pairwise (· < ·)
  al : ∀ x ∈ S, x.1.length ≤ 40
  key : (S.map fun x => prodD x.1).Pairwise Lt
theorem lt_nats {a b : Nat} (h : a < b) : Lt (nD a) (nD b) := by
  refine ⟨ord_int, ?_⟩
  simp only [nD, D.pd, PySem.W.dataLt_int]
  exact decide_eq_true (by omega)
theorem asc_nats {rs : List Nat} (h : rs.Pairwise (· < ·)) : (rs.map nD).Pairwise Lt := by
  rw [List.pairwise_map]
  exact h.imp fun q => lt_nats q
theorem keys_lc (S : List (List (Nat × Nat) × Nat)) (τ : Tu) (h : EH) (i j : Nat) (chk : EH → Bool) (hc : chk h = true) (hij : i ≠ j) (hi : i < τ.length) :
    lcGo chk (lcB (.tp (.cons (.nm i) (.cons (.nm j) .nil))) τ mYes (mVar i)) (S.map itemD) h = .ok (S.map fun x => prodD x.1) h := by
  rw [lc_map hc (f := fun d => match d with
    | .tup [x, _] => [x]
    | _ => [])]
  · congr 1
    induction S with
    | nil => rfl
    | cons a A ih => simp [itemD] at ih ⊢; exact ih
  · intro d hd
    obtain ⟨x, _, rfl⟩ := List.mem_map.mp hd
    simp [lcB, itemD, List.getElem?_set, hij, hij.symm, hi]
def rowOk (many : Nat) (r : Nat) : Bool := decide (r < many)
theorem ints_lc (A : List (Nat × Nat)) (many : Nat) (x0 x2 x3 : Sl) (h : EH) (chk : EH → Bool) (hc : chk h = true) :
    lcGo chk (lcB (.tp (.cons (.nm 4) (.cons (.nm 3) .nil))) [x0, .pu (nD many), x2, .em, .em] mYes (fm (mOwn F_is_integer (mCons (mVar 4) (mCons (mLit (.int 0)) (mCons (fm (mBin oSub (mPeek 1) (mLit (.int 1)))) mNil)))))) (A.map pairD) h = .ok ((A.map fun e => rowOk many e.1).map D.bl) h := by
  rw [lc_map hc (f := fun d => match d with
    | .tup [.int x, _] => [.bl (rowOk many x.toNat)]
    | _ => [])]
  · congr 1
    induction A with
    | nil => rfl
    | cons a A ih => simp [pairD] at ih ⊢; exact ih
  · intro d hd
    obtain ⟨x, _, rfl⟩ := List.mem_map.mp hd
    have e : (decide ((x.1 : Int) ≤ (many : Int) - 1)) = decide (x.1 < many) := by simp only [decide_eq_decide]; omega
    simp [lcB, pairD, nD, is_integer_eq, rowOk, e]
theorem is_sum_eq (S : List (List (Nat × Nat) × Nat)) (many : Nat) (v : Val S many) (h : EH) : F_is_sum [sumD S, .int (many : Int)] h = .ok (.pu (.bl true)) h := by
  have key := forGo_list (f := itemD) (t := .tp (.cons (.nm 2) (.cons (.nm 3) .nil))) (h := h) (chk := isAs (sumD S) (sumD S)) (by simp [sumD])
    (b := (mSeq (mIf (mOrT (mNotT (mTru (fm (mOwn F_are_counted (mCons (mVar 2) mNil))))) (mNotT (mTru (fm (mCall gAll (mCons (fm (mLc (mWalk (mPeek 2)) (.tp (.cons (.nm 4) (.cons (.nm 3) .nil))) [4, 3] mYes (fm (mOwn F_is_integer (mCons (mVar 4) (mCons (mLit (.int 0)) (mCons (fm (mBin oSub (mPeek 1) (mLit (.int 1)))) mNil))))))) mNil))))))
      (mSeq (mRet (pm (mLit (.bl false))))
    mNext)
      mNext)
    (mSeq (mIf (mNotT (mTru (fm (mOwn F_are_ascending (mCons (fm (mLc (mWalk (mPeek 2)) (.tp (.cons (.nm 4) (.cons (.nm 3) .nil))) [4, 3] mYes (mVar 4))) mNil)))))
      (mSeq (mRet (pm (mLit (.bl false))))
    mNext)
      mNext)
    mNext)))
    (fun R τ => (∀ x ∈ R, x ∈ S) ∧ ∃ x2 x3 x4, τ = [.pu (sumD S), .pu (nD many), x2, x3, x4])
    S (τ := [.pu (sumD S), .pu (nD many), .em, .em, .em]) ⟨fun x hx => hx, _, _, _, rfl⟩ (by
      rintro ⟨A, n⟩ R τ ⟨hR, x2, x3, x4, rfl⟩
      have ha := hR _ List.mem_cons_self
      refine ⟨[.pu (sumD S), .pu (nD many), .pu (prodD A), .pu (nD n), x4], [.pu (sumD S), .pu (nD many), .pu (prodD A), .pu (nD n), x4], by simp [itemD, nD], ?_, fun x hx => hR x (List.mem_cons_of_mem _ hx), _, _, _, rfl⟩
      have c := are_counted_eq (A.map pairD) (by
        intro d hd
        obtain ⟨e, he, rfl⟩ := List.mem_map.mp hd
        exact ⟨_, e.2, rfl, v.tim _ ha e he⟩) h
      have hl : A.length ≤ L := Nat.le_trans (v.al _ ha) (by decide)
      have hl' : (rowsOf A).length ≤ L := by simpa [rowsOf] using hl
      have r : ∀ e ∈ A, e.1 < many := fun e he => v.row _ ha _ (List.mem_map_of_mem he)
      have asc := ascending_eq ((rowsOf A).map nD) (by simpa using hl') (asc_nats (v.asc _ ha)) h
      have il := ints_lc A many (.pu (sumD S)) (.pu (.tup (A.map pairD))) .em h (isAs (D.tup (List.map pairD A)) (D.tup (List.map pairD A))) (by simp)
      have hall : (A.map fun e => rowOk many e.1).all id = true := by
        rw [List.all_eq_true]
        intro b hb
        obtain ⟨e, he, rfl⟩ := List.mem_map.mp hb
        exact decide_eq_true (r e he)
      have hlen : (A.map fun e => rowOk many e.1).length ≤ L := by simpa using hl
      generalize (A.map fun e => rowOk many e.1) = bs at il hall hlen
      have hf : ¬ (false ∈ bs) := fun q => by
        have := List.all_eq_true.mp hall _ q
        exact absurd this (by simp)
      simp [prodD, c, il, wipeT, lcEnd_ok, hl, hlen, rows_lc, hl', asc, gAll_lst, hf])
  obtain ⟨τ', ⟨_, x2, x3, x4, rfl⟩, g⟩ := key
  have c := are_counted_eq (S.map itemD) (by
    intro d hd
    obtain ⟨e, he, rfl⟩ := List.mem_map.mp hd
    exact ⟨_, e.2, rfl, v.cnt _ he⟩) h
  have asc := ascending_eq (S.map fun x => prodD x.1) (by simp [L]; have := v.len; omega) v.key h
  have hl : ¬ ((2000 : Int) < (S.length : Int)) := by have := v.len; omega
  have hm : (many : Int) ≤ 40 := by have := v.m40; omega
  have hl2 : S.length ≤ L := Nat.le_trans v.len (by decide)
  show bodyEnd (m_is_sum [.pu (sumD S), .pu (nD many), .em, .em, .em] h) = _
  simp only [m_is_sum]
  simp [sumD, nD] at g
  simp [sumD, nD, is_integer_eq, c, hl, hm, g, keys_lc, wipeT, lcEnd_ok, hl2, asc]
end K74

set_option Elab.async false
set_option linter.all false
set_option maxRecDepth 100000
namespace K74
open PySem PySem.Spec L2 Mp
open PyProof.Rows hiding St mod_int startT pairsOf allFlat cutD
theorem Val.up {S : List (List (Nat × Nat) × Nat)} {n m : Nat} (v : Val S n) (h : n ≤ m) (hm : m ≤ 40) : Val S m := ⟨hm, v.len, v.cnt, v.tim, fun x hx r hr => Nat.lt_of_lt_of_le (v.row x hx r hr) h, v.asc, v.al, v.key⟩
theorem check_sum_eq (S : List (List (Nat × Nat) × Nat)) (n : Nat) (v : Val S n) (h : EH) : F_check_sum [sumD S] h = .ok (.pu .non) h := by
  have e := is_sum_eq S 40 (v.up v.m40 (Nat.le_refl _)) h
  show bodyEnd (m_check_sum [.pu (sumD S)] h) = _
  simp at e
  simp [m_check_sum, e]
theorem check_sum_non (h : EH) : F_check_sum [.non] h = .exc ⟨"BadSum", []⟩ h := by
  have c : F_are_counted [.non] h = .ok (.pu (.bl false)) h := by
    show bodyEnd (m_are_counted [.pu .non, .em] h) = _
    simp [m_are_counted]
  have e : F_is_sum [.non, .int 40] h = .ok (.pu (.bl false)) h := by
    show bodyEnd (m_is_sum [.pu .non, .pu (.int 40), .em, .em, .em] h) = _
    simp [m_is_sum, is_integer_eq, c]
  show bodyEnd (m_check_sum [.pu .non] h) = _
  simp [m_check_sum, e]
theorem pow20 (h : EH) : oPow h (.int 10) (.int 20) = some (.pu (.int 100000000000000000000)) := by rfl
theorem is_part_eq (p d : Nat) (hd : d < 2 ^ 64) (h : EH) : F_is_part [pairD (p, d)] h = .ok (.pu (.bl (decide (1 ≤ d ∧ p ≤ d ∧ Nat.gcd p d = 1)))) h := by
  show bodyEnd (m_is_part [.pu (pairD (p, d))] h) = _
  have h1 : (d : Int) ≤ 99999999999999999999 := by omega
  by_cases a : 1 ≤ d
  · have a' : ¬ (d : Int) < 1 := by omega
    by_cases b : p ≤ d
    · by_cases c : Nat.gcd p d = 1
      · simp [m_is_part, pairD, is_integer_eq, pow20, h1, common_eq, a, b, a', c]
      · have : ¬ (((Nat.gcd p d : Nat) : Int) = 1) := by omega
        simp [m_is_part, pairD, is_integer_eq, pow20, h1, common_eq, a, b, a', c, this]
    · simp [m_is_part, pairD, is_integer_eq, pow20, h1, common_eq, a, b, a']
  · have a' : (d : Int) < 1 := by omega
    simp [m_is_part, pairD, is_integer_eq, pow20, h1, common_eq, a, a']
/-- chances in order -/
structure Chk (P : List (Nat × Nat)) : Prop extends POk P where
  low : ∀ x ∈ P, Nat.gcd x.1 x.2 = 1
  len : P.length ≤ 40
theorem parts_lc (P : List (Nat × Nat)) (x0 x1 : Sl) (h : EH) (chk : EH → Bool) (hc : chk h = true) (hp : ∀ x ∈ P, x.2 < 2 ^ 64) :
    lcGo chk (lcB (.nm 2) [x0, x1, .em] mYes (fm (mOwn F_is_part (mCons (mVar 2) mNil)))) (P.map pairD) h = .ok ((P.map fun x => decide (1 ≤ x.2 ∧ x.1 ≤ x.2 ∧ Nat.gcd x.1 x.2 = 1)).map D.bl) h := by
  rw [lc_map hc (f := fun d => match d with
    | .tup [.int p, .int d] => [.bl (decide (1 ≤ d.toNat ∧ p.toNat ≤ d.toNat ∧ Nat.gcd p.toNat d.toNat = 1))]
    | _ => [])]
  · congr 1
    clear hp
    induction P with
    | nil => rfl
    | cons a A ih => simp [pairD] at ih ⊢; exact ih
  · intro d hd
    obtain ⟨x, hx, rfl⟩ := List.mem_map.mp hd
    have := is_part_eq x.1 x.2 (hp x hx) h
    simp [lcB, this]
    simp [pairD]
theorem check_chances_eq (S : List (List (Nat × Nat) × Nat)) (P : List (Nat × Nat)) (hP : Chk P) (v : Val S P.length) (h200 : S.length ≤ 200) (h : EH) : F_check_chances [sumD S, prodD P] h = .ok (.pu .non) h := by
  have e1 := check_sum_eq S _ v h
  have e2 := is_sum_eq S _ v h
  have e3 := parts_lc P (.pu (sumD S)) (.pu (prodD P)) h (isAs (prodD P) (prodD P)) (by simp [prodD]) hP.sm
  have hall : (P.map fun x => decide (1 ≤ x.2 ∧ x.1 ≤ x.2 ∧ Nat.gcd x.1 x.2 = 1)).all id = true := by
    rw [List.all_eq_true]
    intro b hb
    obtain ⟨e, he, rfl⟩ := List.mem_map.mp hb
    exact decide_eq_true ⟨Nat.pos_of_ne_zero (hP.pos e he), hP.le e he, hP.low e he⟩
  have hlen : (P.map fun x => decide (1 ≤ x.2 ∧ x.1 ≤ x.2 ∧ Nat.gcd x.1 x.2 = 1)).length ≤ L := by
    rw [List.length_map]; exact Nat.le_trans hP.len (by decide)
  generalize (P.map fun x => decide (1 ≤ x.2 ∧ x.1 ≤ x.2 ∧ Nat.gcd x.1 x.2 = 1)) = bs at e3 hall hlen
  have hf : ¬ (false ∈ bs) := fun q => by
    have := List.all_eq_true.mp hall _ q
    exact absurd this (by simp)
  have h40 : ¬ ((40 : Int) < (P.length : Int)) := by have := hP.len; omega
  have h200' : ¬ ((200 : Int) < (S.length : Int)) := by omega
  show bodyEnd (m_check_chances [.pu (sumD S), .pu (prodD P), .em] h) = _
  simp [prodD] at e2 e3
  simp [m_check_chances, e1, prodD, h40, wipeT, e3, lcEnd_ok, hlen, gAll_lst, hf, e2]
  simp [sumD, h200']
end K74

set_option Elab.async false
set_option linter.all false
set_option maxRecDepth 100000
namespace K74
open PySem PySem.Spec L2 Mp
open PyProof.Rows hiding St mod_int startT pairsOf allFlat cutD
theorem chances_non (S : List (List (Nat × Nat) × Nat)) (n : Nat) (v : Val S n) (h : EH) : F_check_chances [sumD S, .non] h = .exc ⟨"NoSuch", []⟩ h := by
  have e1 := check_sum_eq S _ v h
  show bodyEnd (m_check_chances [.pu (sumD S), .pu .non, .em] h) = _
  simp [m_check_chances, e1]
theorem chances_lst (S : List (List (Nat × Nat) × Nat)) (n : Nat) (v : Val S n) (ds : List D) (h : EH) : F_check_chances [sumD S, .lst ds] h = .exc ⟨"NoSuch", []⟩ h := by
  have e1 := check_sum_eq S _ v h
  show bodyEnd (m_check_chances [.pu (sumD S), .pu (.lst ds), .em] h) = _
  simp [m_check_chances, e1]
theorem chances_sum (d : D) (h : EH) : F_check_chances [.non, d] h = .exc ⟨"BadSum", []⟩ h := by
  have e1 := check_sum_non h
  show bodyEnd (m_check_chances [.pu .non, .pu d, .em] h) = _
  simp [m_check_chances, e1]
theorem chances_bad (S : List (List (Nat × Nat) × Nat)) (n : Nat) (v : Val S n) (P : List (Nat × Nat)) (hl : P.length ≤ 40) (hp : ∀ x ∈ P, x.2 < 2 ^ 64) (hb : ∃ x ∈ P, ¬ (1 ≤ x.2 ∧ x.1 ≤ x.2 ∧ Nat.gcd x.1 x.2 = 1)) (h : EH) : F_check_chances [sumD S, prodD P] h = .exc ⟨"NoSuch", []⟩ h := by
  have e1 := check_sum_eq S _ v h
  have e3 := parts_lc P (.pu (sumD S)) (.pu (prodD P)) h (isAs (prodD P) (prodD P)) (by simp [prodD]) hp
  have hf : false ∈ (P.map fun x => decide (1 ≤ x.2 ∧ x.1 ≤ x.2 ∧ Nat.gcd x.1 x.2 = 1)) := by
    obtain ⟨x, hx, q⟩ := hb
    exact List.mem_map.mpr ⟨x, hx, decide_eq_false q⟩
  have hlen : (P.map fun x => decide (1 ≤ x.2 ∧ x.1 ≤ x.2 ∧ Nat.gcd x.1 x.2 = 1)).length ≤ L := by
    rw [List.length_map]; exact Nat.le_trans hl (by decide)
  generalize (P.map fun x => decide (1 ≤ x.2 ∧ x.1 ≤ x.2 ∧ Nat.gcd x.1 x.2 = 1)) = bs at e3 hf hlen
  have h40 : ¬ ((40 : Int) < (P.length : Int)) := by omega
  show bodyEnd (m_check_chances [.pu (sumD S), .pu (prodD P), .em] h) = _
  simp [prodD] at e3
  simp [m_check_chances, e1, prodD, h40, wipeT, e3, lcEnd_ok, hlen, gAll_lst, hf]
theorem is_sum_bad (m : Nat) (hm : m ≤ 39) (h : EH) : F_is_sum [sumD [([(m, 1)], 1)], .int (m : Int)] h = .ok (.pu (.bl false)) h := by
  have c := are_counted_eq [.tup [prodD [(m, 1)], nD 1]] (by
    intro d hd
    rw [List.mem_singleton] at hd
    exact ⟨_, 1, hd, Nat.le_refl _⟩) h
  have c2 := are_counted_eq [pairD (m, 1)] (by
    intro d hd
    rw [List.mem_singleton] at hd
    exact ⟨nD m, 1, hd, Nat.le_refl _⟩) h
  have il := ints_lc [(m, 1)] m (.pu (sumD [([(m, 1)], 1)])) (.pu (prodD [(m, 1)])) .em h (isAs (prodD [(m, 1)]) (prodD [(m, 1)])) (by simp [prodD])
  have hl : (1 : Nat) ≤ L := by decide
  have hm' : (m : Int) ≤ 40 := by omega
  show bodyEnd (m_is_sum [.pu (sumD [([(m, 1)], 1)]), .pu (nD m), .em, .em, .em] h) = _
  simp [prodD, pairD, nD, sumD, itemD, rowOk] at c c2 il
  simp [m_is_sum, sumD, itemD, prodD, pairD, nD, is_integer_eq, c, hm', forGo, c2, wipeT, il, lcEnd, hl]
  simp [gAll, blsOf]
theorem chances_row (m : Nat) (hm : m ≤ 39) (P : List (Nat × Nat)) (hP : Chk P) (hl : P.length = m) (h : EH) : F_check_chances [sumD [([(m, 1)], 1)], prodD P] h = .exc ⟨"NoSuch", []⟩ h := by
  have v : Val [([(m, 1)], 1)] (m + 1) := ⟨by omega, by simp, by simp, by simp, by simp [rowsOf], by simp [rowsOf], by simp, by simp⟩
  have e1 := check_sum_eq _ _ v h
  have e2 := is_sum_bad m hm h
  have e3 := parts_lc P (.pu (sumD [([(m, 1)], 1)])) (.pu (prodD P)) h (isAs (prodD P) (prodD P)) (by simp [prodD]) hP.sm
  have hall : (P.map fun x => decide (1 ≤ x.2 ∧ x.1 ≤ x.2 ∧ Nat.gcd x.1 x.2 = 1)).all id = true := by
    rw [List.all_eq_true]
    intro b hb
    obtain ⟨e, he, rfl⟩ := List.mem_map.mp hb
    exact decide_eq_true ⟨Nat.pos_of_ne_zero (hP.pos e he), hP.le e he, hP.low e he⟩
  have hlen : (P.map fun x => decide (1 ≤ x.2 ∧ x.1 ≤ x.2 ∧ Nat.gcd x.1 x.2 = 1)).length ≤ L := by
    rw [List.length_map]; exact Nat.le_trans hP.len (by decide)
  generalize (P.map fun x => decide (1 ≤ x.2 ∧ x.1 ≤ x.2 ∧ Nat.gcd x.1 x.2 = 1)) = bs at e3 hall hlen
  have hf : ¬ (false ∈ bs) := fun q => by
    have := List.all_eq_true.mp hall _ q
    exact absurd this (by simp)
  have h40 : ¬ ((40 : Int) < (P.length : Int)) := by have := hP.len; omega
  rw [← hl] at e1 e2 e3 ⊢
  show bodyEnd (m_check_chances [.pu (sumD [([(P.length, 1)], 1)]), .pu (prodD P), .em] h) = _
  simp [prodD] at e2 e3
  simp [m_check_chances, e1, prodD, h40, wipeT, e3, lcEnd_ok, hlen, gAll_lst, hf, e2]
noncomputable def fn : Nat → Str × FN
  | 0 => ("expected", F_expected)
  | 1 => ("expected_square", F_expected_square)
  | 2 => ("bounds", F_bounds)
  | _ => ("spread", F_spread)
theorem tbl_fn (i : Nat) : tblOf [("expected", F_expected), ("expected_square", F_expected_square), ("bounds", F_bounds), ("spread", F_spread)] (fn i).1 = some (fn i).2 := by
  match i with
  | 0 => rfl
  | 1 => rfl
  | 2 => rfl
  | _ + 3 => rfl
theorem fn_exc (i : Nat) {a b : D} {x : Xc} {h : EH} (e : F_check_chances [a, b] h = .exc x h) : (fn i).2 [a, b] h = .exc x h := by
  match i with
  | 0 =>
    show bodyEnd (m_expected [.pu a, .pu b] h) = _
    simp [m_expected, e]
  | 1 =>
    show bodyEnd (m_expected_square [.pu a, .pu b] h) = _
    simp [m_expected_square, e]
  | 2 =>
    show bodyEnd (m_bounds [.pu a, .pu b, .em, .em, .em, .em, .em] h) = _
    simp [m_bounds, e]
  | _ + 3 =>
    show bodyEnd (m_spread [.pu a, .pu b, .em, .em, .em, .em] h) = _
    simp [m_spread, e]
def wordOf (c : Str) : Str := if c = "BadSum" then "sum" else if c = "NoSuch" then "none" else "far"
theorem sb1 : subs "BadSum" "BadTables" = some false := by kernel_rfl
theorem sb2 : subs "BadSum" "BadQuestion" = some false := by kernel_rfl
theorem sb3 : subs "BadSum" "BadSum" = some true := by kernel_rfl
theorem sn1 : subs "NoSuch" "BadTables" = some false := by kernel_rfl
theorem sn2 : subs "NoSuch" "BadQuestion" = some false := by kernel_rfl
theorem sn3 : subs "NoSuch" "BadSum" = some false := by kernel_rfl
theorem sn4 : subs "NoSuch" "BadPaper" = some false := by kernel_rfl
theorem sn5 : subs "NoSuch" "NoSuch" = some true := by kernel_rfl
theorem sf1 : subs "TooFar" "BadTables" = some false := by kernel_rfl
theorem sf2 : subs "TooFar" "BadQuestion" = some false := by kernel_rfl
theorem sf3 : subs "TooFar" "BadSum" = some false := by kernel_rfl
theorem sf4 : subs "TooFar" "BadPaper" = some false := by kernel_rfl
theorem sf5 : subs "TooFar" "NoSuch" = some false := by kernel_rfl
theorem sf6 : subs "TooFar" "TooFar" = some true := by kernel_rfl
theorem w1 : wordOf "BadSum" = "sum" := by kernel_rfl
theorem w2 : wordOf "NoSuch" = "none" := by kernel_rfl
theorem w3 : wordOf "TooFar" = "far" := by kernel_rfl
theorem told_exc (i : Nat) {a b : D} {c : Str} {h : EH} (hc : c = "BadSum" ∨ c = "NoSuch" ∨ c = "TooFar") (e : F_check_chances [a, b] h = .exc ⟨c, []⟩ h) : F__law_told [.glob (fn i).1, .tup [a, b]] h = .ok (.pu (.str (wordOf c))) h := by
  have e2 := fn_exc i e
  have t := tbl_fn i
  show bodyEnd (m__law_told [.pu (.glob (fn i).1), .pu (.tup [a, b]), .em] h) = _
  simp [m__law_told, mCallV, t, e2]
  rcases hc with rfl | rfl | rfl <;> simp [handle, sb1, sb2, sb3, sn1, sn2, sn3, sn4, sn5, sf1, sf2, sf3, sf4, sf5, sf6, w1, w2, w3, noExc]
end K74

set_option Elab.async false
set_option linter.all false
set_option maxRecDepth 100000
namespace K74
open PySem PySem.Spec L2 Mp
open PyProof.Rows hiding St mod_int startT pairsOf allFlat cutD
structure Good (S : List (List (Nat × Nat) × Nat)) (P : List (Nat × Nat)) (Q : Nat) : Prop where
  chk : Chk P
  val : Val S P.length
  l200 : S.length ≤ 200
  q0 : Q ≠ 0
  q : Q < 2 ^ 16
  one : ∀ x ∈ S, SOk P Q (rowsOf x.1) ∧ x.2 < 2 ^ 64 ∧ x.1.length ≤ 40
structure Good2 (S : List (List (Nat × Nat) × Nat)) (P : List (Nat × Nat)) (Q : Nat) : Prop extends Good S P Q where
  two : SqOk P Q S
  e : (ev P S).num < 2 ^ 20
  s : (sq P S S).num < 2 ^ 24
  var : ev P S * ev P S ≤ sq P S S
variable {S : List (List (Nat × Nat) × Nat)} {P : List (Nat × Nat)} {Q : Nat}
theorem expected_eq (g : Good S P Q) (h : EH) : F_expected [sumD S, prodD P] h = .ok (.pu (rt (ev P S))) h := by
  have e1 := check_chances_eq S P g.chk g.val g.l200 h
  have e2 := expected_of_eq P S Q g.chk.toPOk g.q0 (Nat.lt_trans g.q (by decide)) g.one h
  show bodyEnd (m_expected [.pu (sumD S), .pu (prodD P)] h) = _
  simp [m_expected, e1, e2]
theorem expected_square_eq (g : Good2 S P Q) (h : EH) : F_expected_square [sumD S, prodD P] h = .ok (.pu (rt (sq P S S))) h := by
  have e1 := check_chances_eq S P g.chk g.val g.l200 h
  have e2 := square_of_eq P S Q g.chk.toPOk g.q0 (Nat.lt_trans g.q (by decide)) g.two h
  show bodyEnd (m_expected_square [.pu (sumD S), .pu (prodD P)] h) = _
  simp [m_expected_square, e1, e2]
theorem ev_den (hS : ∀ x ∈ S, SOk P Q (rowsOf x.1) ∧ x.2 < 2 ^ 64 ∧ x.1.length ≤ 40) : Den Q (ev P S) := by
  induction S with
  | nil => exact .zero
  | cons x S ih =>
    rw [ev_cons]
    exact ((hS x List.mem_cons_self).1.q.mul _).add (ih fun y hy => hS y (List.mem_cons_of_mem _ hy))
theorem sq_den (S' : List (List (Nat × Nat) × Nat)) (h : ∀ x ∈ S', ∀ y ∈ S, SOk P Q (un x.1 y.1)) : Den Q (sq P S S') := by
  induction S' with
  | nil => exact .zero
  | cons x S' ih =>
    rw [sq_cons]
    exact (sq1_den S (h x List.mem_cons_self)).add (ih fun y hy => h y (List.mem_cons_of_mem _ hy))
theorem spread_eq (g : Good2 S P Q) (h : EH) : F_spread [sumD S, prodD P] h = .ok (.pu (rt (sq P S S - ev P S * ev P S))) h := by
  have e1 := check_chances_eq S P g.chk g.val g.l200 h
  have e2 := expected_of_eq P S Q g.chk.toPOk g.q0 (Nat.lt_trans g.q (by decide)) g.one h
  have e3 := square_of_eq P S Q g.chk.toPOk g.q0 (Nat.lt_trans g.q (by decide)) g.two h
  have d2 := ev_den g.one
  have d3 : Den Q (sq P S S) := sq_den S fun x hx => (g.two x hx).2.2
  have b2 := d2.den g.q0
  have b3 := d3.den g.q0
  have hv := g.var
  have he := g.e
  have hs := g.s
  have hq := g.q
  have n2 := d2.nn g.q0
  have n3 := d3.nn g.q0
  generalize ev P S = E at *
  generalize sq P S S = V at *
  obtain ⟨p, hp⟩ := num_nn n2
  obtain ⟨r, hr⟩ := num_nn n3
  have ep := rt_nat hp
  have er := rt_nat hr
  have zE := natQ E.den_nz
  have zV := natQ V.den_nz
  have p20 : p < 2 ^ 20 := by omega
  have r24 : r < 2 ^ 24 := by omega
  have h1 : ((E.den : Int)).natAbs < 2 ^ 64 := by simp; omega
  have h2 : ((p : Int)).natAbs < 2 ^ 64 := by simp; omega
  have h3 : ((V.den : Int)).natAbs < 2 ^ 64 := by simp; omega
  have hle : p * p * V.den ≤ r * E.den * E.den := by
    have : (p : Rat) * p * V.den ≤ r * E.den * E.den := by
      have e4 : (p : Rat) = E * E.den := by grind
      have e5 : (r : Rat) = V * V.den := by grind
      have k1 : (0 : Rat) ≤ (V.den : Rat) * (E.den * E.den) := Rat.mul_nonneg Rat.natCast_nonneg (Rat.mul_nonneg Rat.natCast_nonneg Rat.natCast_nonneg)
      have k2 := Rat.mul_le_mul_of_nonneg_right hv k1
      rw [e4, e5]
      grind
    rw [← Rat.natCast_mul, ← Rat.natCast_mul, ← Rat.natCast_mul, ← Rat.natCast_mul, Rat.natCast_le_natCast] at this
    exact this
  have hz : V.den * E.den * E.den ≠ 0 := Nat.mul_ne_zero (Nat.mul_ne_zero V.den_nz E.den_nz) E.den_nz
  have hb : V.den * E.den * E.den < 2 ^ 64 := by
    have a1 : V.den < 2 ^ 16 := by omega
    have a2 : E.den < 2 ^ 16 := by omega
    have a3 : V.den * E.den < 2 ^ 32 := Nat.lt_of_lt_of_le (Nat.mul_lt_mul'' a1 a2) (by decide)
    exact Nat.lt_of_lt_of_le (Nat.mul_lt_mul'' a3 a2) (by decide)
  have lo := lowest_eq (r * E.den * E.den - p * p * V.den) (V.den * E.den * E.den) hz hb h
  have ev : ((r * E.den * E.den - p * p * V.den : Nat) : Rat) / ((V.den * E.den * E.den : Nat) : Rat) = V - E * E := by
    have c : ((r * E.den * E.den - p * p * V.den : Nat) : Rat) = r * E.den * E.den - p * p * V.den := by
      have : ((r * E.den * E.den - p * p * V.den : Nat) : Rat) + ((p * p * V.den : Nat) : Rat) = ((r * E.den * E.den : Nat) : Rat) := by
        rw [← Rat.natCast_add, Nat.sub_add_cancel hle]
      simp only [Rat.natCast_mul] at this ⊢
      grind
    rw [c]
    simp only [Rat.natCast_mul]
    rw [← ep, ← er]
    grind
  rw [ev] at lo
  rw [← lo]
  have ci : (((r * E.den * E.den - p * p * V.den : Nat)) : Int) = (r : Int) * E.den * E.den - p * p * V.den := by
    rw [Int.natCast_sub hle]; simp
  show bodyEnd (m_spread [.pu (sumD S), .pu (prodD P), .em, .em, .em, .em] h) = _
  rw [ci]
  simp [m_spread, e1, e2, e3, rt, hp, hr, mul_r h1, mul_l h2, mul_r h3]
  cases F_lowest [D.int (↑r * ↑E.den * ↑E.den - ↑p * ↑p * ↑V.den), D.int (↑V.den * ↑E.den * ↑E.den)] h <;> simp
theorem rt_zero : rt 0 = .tup [.int 0, .int 1] := rfl
theorem rt_one : rt 1 = .tup [.int 1, .int 1] := rfl
theorem num_gt {E : Rat} {p : Nat} (hp : E.num = (p : Int)) : (E.den : Int) < (p : Int) ↔ 1 < E := by
  rw [Rat.lt_iff, hp]
  simp
theorem bounds_eq (g : Good2 S P Q) (h : EH) : F_bounds [sumD S, prodD P] h = .ok (.pu (.tup [rt (ev P S * ev P S / sq P S S), rt (if 1 < ev P S then 1 else ev P S)])) h := by
  have e1 := check_chances_eq S P g.chk g.val g.l200 h
  have e2 := expected_of_eq P S Q g.chk.toPOk g.q0 (Nat.lt_trans g.q (by decide)) g.one h
  have e3 := square_of_eq P S Q g.chk.toPOk g.q0 (Nat.lt_trans g.q (by decide)) g.two h
  have d2 := ev_den g.one
  have d3 : Den Q (sq P S S) := sq_den S fun x hx => (g.two x hx).2.2
  have b2 := d2.den g.q0
  have b3 := d3.den g.q0
  have hv := g.var
  have he := g.e
  have hs := g.s
  have hq := g.q
  have n2 := d2.nn g.q0
  have n3 := d3.nn g.q0
  generalize ev P S = E at *
  generalize sq P S S = V at *
  obtain ⟨p, hp⟩ := num_nn n2
  obtain ⟨r, hr⟩ := num_nn n3
  have ep := rt_nat hp
  have er := rt_nat hr
  have zE := natQ E.den_nz
  have zV := natQ V.den_nz
  have p20 : p < 2 ^ 20 := by omega
  have r24 : r < 2 ^ 24 := by omega
  have h1 : ((E.den : Int)).natAbs < 2 ^ 64 := by simp; omega
  have h2 : ((p : Int)).natAbs < 2 ^ 64 := by simp; omega
  have h3 : ((V.den : Int)).natAbs < 2 ^ 64 := by simp; omega
  have h4 : ((r : Int)).natAbs < 2 ^ 64 := by simp; omega
  show bodyEnd (m_bounds [.pu (sumD S), .pu (prodD P), .em, .em, .em, .em, .em] h) = _
  by_cases p0 : p = 0
  · have E0 : E = 0 := by
      subst p0
      exact Rat.num_eq_zero.mp hp
    subst E0
    have l1 : ¬ ((1 : Rat) < 0) := by decide
    simp [m_bounds, e1, e2, rt, l1, Rat.zero_mul, Rat.div_def]
  · have hr0 : r ≠ 0 := by
      intro z
      have hV : V = 0 := by subst z; exact Rat.num_eq_zero.mp hr
      have hE : E ≠ 0 := fun q => p0 (by rw [q] at hp; simpa using hp.symm)
      have : 0 < E := Rat.lt_of_le_of_ne n2 (Ne.symm hE)
      have := Rat.mul_pos this this
      rw [hV] at hv
      exact absurd hv (Rat.not_le.mpr this)
    have hz : E.den * E.den * r ≠ 0 := Nat.mul_ne_zero (Nat.mul_ne_zero E.den_nz E.den_nz) hr0
    have hb : E.den * E.den * r < 2 ^ 64 := by
      have a2 : E.den < 2 ^ 16 := by omega
      have a3 : E.den * E.den < 2 ^ 32 := Nat.lt_of_lt_of_le (Nat.mul_lt_mul'' a2 a2) (by decide)
      exact Nat.lt_of_lt_of_le (Nat.mul_lt_mul'' a3 r24) (by decide)
    have lo := lowest_eq (p * p * V.den) (E.den * E.den * r) hz hb h
    have ev : ((p * p * V.den : Nat) : Rat) / ((E.den * E.den * r : Nat) : Rat) = E * E / V := by
      have zr := natQ hr0
      simp only [Rat.natCast_mul]
      rw [← ep, ← er]
      grind
    rw [ev] at lo
    simp at lo
    have c0 : ¬ ((p : Int) = 0) := by omega
    by_cases c : 1 < E
    · have c' := (num_gt hp).mpr c
      have c' : (E.den : Nat) < p := by omega
      simp [m_bounds, e1, e2, e3, rt, hp, hr, mul_r h1, mul_l h2, mul_r h3, mul_r h4, c0, p0, c, c'] at lo ⊢
      simp [lo]
    · have c' : ¬ (E.den : Nat) < p := fun q => c ((num_gt hp).mp (by omega))
      simp [m_bounds, e1, e2, e3, rt, hp, hr, mul_r h1, mul_l h2, mul_r h3, mul_r h4, c0, p0, c, c'] at lo ⊢
      simp [lo]
end K74

set_option Elab.async false
set_option linter.all false
set_option maxRecDepth 100000
namespace K74
open PySem PySem.Spec L2 Mp
open PyProof.Rows hiding St mod_int startT pairsOf allFlat cutD
def Bag (h : EH) (n : Nat) : Prop := ∃ a b c : Int, h[n]? = some (.lst [.int a, .int b, .int c]) ∧ 0 ≤ a
theorem oIx_ref {h : EH} {n : Nat} {ds : List D} {i : Int} (hn : h[n]? = some (.lst ds)) : oIx h (.ref n) (.int i) = (atI ds i).map .pu := by
  have : der h (.ref n) = .lst ds := by
    show (match h[n]? with
    | some (.lst ds) => D.lst ds
    | some (.fz ds) => .lst ds
    | some (.dct kvs) => .dct kvs
    | _ => .ref n) = _
    rw [hn]
  unfold oIx
  rw [this]
  rfl
theorem wr_ref {h : EH} {n : Nat} {ds : List D} {i : Int} {d : D} {τ : Tu} {k : Nat} {j : Nat} (hn : h[n]? = some (.lst ds)) (hk : τ[k]? = some (.pu (.ref n))) (hj : ixN ds.length i = some j) : wrV k (wrB (.int i) d) τ h = .nx τ (h.set n (.lst (ds.set j d))) := by
  unfold wrV
  rw [hk]
  simp [hn, eoD, wrB, hj, eoOf]
theorem set_get {h : EH} {n : Nat} {o o' : EO} (hn : h[n]? = some o) : (h.set n o')[n]? = some o' := by
  have := (List.getElem?_eq_some_iff.mp hn).1
  rw [List.getElem?_set_self this]
def tail2 : SM := (mSeq (mSet 3 (mBin oIx (mPeek 0) (mLit (.int 0))))
    (mSeq (mSubV 0 (mLit (.int 0)) (fm (mBin oDiv (mPeek 3) (mPeek 1))))
    (mSeq (mRet (mBin oMod (fm (mCall gInt (mCons (mPeek 3) mNil))) (mPeek 1)))
    mNext)))
theorem draw_tail (h : EH) (n many : Nat) (a b c : Int) (x2 x3 : Sl) (hn : h[n]? = some (.lst [.int a, .int b, .int c])) (ha : 0 ≤ a) (hm : 0 < many) (hm2 : many < 2 ^ 20) :
    ∃ (v : Nat) (h' : EH), bodyEnd (tail2 [.pu (.ref n), .pu (.int (many : Int)), x2, x3] h) = .ok (.pu (.int (v : Int))) h' ∧ v < many ∧ Bag h' n := by
  obtain ⟨A, rfl⟩ : ∃ A : Nat, a = (A : Int) := ⟨a.toNat, by omega⟩
  have h0 : (many : Int) ≠ 0 := by omega
  refine ⟨A % many, h.set n (.lst [.int ((A / many : Nat) : Int), .int b, .int c]), ?_, Nat.mod_lt _ hm, _, b, c, set_get hn, Int.natCast_nonneg _⟩
  have e := fun (τ : Tu) (hk : τ[0]? = some (.pu (.ref n))) => wr_ref (i := 0) (j := 0) (d := .int ((A / many : Nat) : Int)) hn hk rfl
  simp only [tail2]
  simp [oIx_ref hn, Mp.div_int h0 (pylong_nat (Nat.lt_trans hm2 (by decide))), Mp.mod_int h0, fmod_nat, fdiv_nat, mSubV, isBox] at e ⊢
  rw [e _ rfl]
  simp [fmod_nat, Mp.mod_int h0]
theorem draw_eq {h : EH} {n many : Nat} (hb : Bag h n) (hm : 0 < many) (hm2 : many < 2 ^ 20) : ∃ (v : Nat) (h' : EH), F__law_draw [.ref n, .int (many : Int)] h = .ok (.pu (.int (v : Int))) h' ∧ v < many ∧ Bag h' n := by
  obtain ⟨a, b, c, hn, ha⟩ := hb
  have body : F__law_draw [.ref n, .int (many : Int)] h = bodyEnd (m__law_draw [.pu (.ref n), .pu (.int (many : Int)), .em, .em] h) := rfl
  by_cases a0 : a = 0
  · subst a0
    obtain ⟨s, hs⟩ : ∃ s : Nat, (b * 48271 + c * 69621 + 11).fmod 2147483647 = (s : Int) := ⟨((b * 48271 + c * 69621 + 11).fmod 2147483647).toNat, by
      have := Int.fmod_nonneg_of_pos (b * 48271 + c * 69621 + 11) (b := 2147483647) (by decide)
      omega⟩
    have sl : s < 2147483647 := by
      have := Int.fmod_lt_of_pos (b * 48271 + c * 69621 + 11) (b := 2147483647) (by decide)
      omega
    obtain ⟨u, hu⟩ : ∃ u : Nat, ((s : Int) * s + c * 16807).fmod 2147483629 = (u : Int) := ⟨(((s : Int) * s + c * 16807).fmod 2147483629).toNat, by
      have := Int.fmod_nonneg_of_pos ((s : Int) * s + c * 16807) (b := 2147483629) (by decide)
      omega⟩
    have hn2 := set_get (o' := .lst [.int ((s : Int) * 2147483629 + u), .int b, .int c]) hn
    have hn3 := set_get (o' := .lst [.int ((s : Int) * 2147483629 + u), .int (s : Int), .int c]) hn2
    obtain ⟨v, h', e, q, r⟩ := draw_tail _ n many _ _ _ (.pu (.int (s : Int))) .em hn3 (by omega) hm hm2
    refine ⟨v, h', ?_, q, r⟩
    rw [body, ← e]
    have w1 := fun (τ : Tu) (hk : τ[0]? = some (.pu (.ref n))) => wr_ref (i := 0) (j := 0) (d := .int ((s : Int) * 2147483629 + u)) hn hk rfl
    have w2 := fun (τ : Tu) (hk : τ[0]? = some (.pu (.ref n))) => wr_ref (i := 1) (j := 1) (d := .int (s : Int)) hn2 hk rfl
    have l1 : ((48271 : Int)).natAbs < 2 ^ 64 := by decide
    have l2 : ((69621 : Int)).natAbs < 2 ^ 64 := by decide
    have l3 : ((2147483629 : Int)).natAbs < 2 ^ 64 := by decide
    have l4 : ((16807 : Int)).natAbs < 2 ^ 64 := by decide
    have l5 : ((s : Int)).natAbs < 2 ^ 64 := by simp; omega
    simp only [m__law_draw, tail2]
    simp [oIx_ref hn, oIx_ref hn2, mSubV, isBox, mul_r l1, mul_r l2, mul_r l3, mul_r l4, mul_r l5, hs, hu, Mp.mod_int] at w1 w2 ⊢
    rw [w1 _ rfl]
    simp [mSubV, isBox]
    rw [w2 _ rfl]
    simp [mSubV, isBox]
  · obtain ⟨v, h', e, q, r⟩ := draw_tail h n many a b c .em .em hn ha hm hm2
    refine ⟨v, h', ?_, q, r⟩
    rw [body, ← e]
    simp only [m__law_draw, tail2]
    simp [oIx_ref hn, a0]
end K74

set_option Elab.async false
set_option linter.all false
set_option maxRecDepth 100000
namespace K74
open PySem PySem.Spec L2 Mp
open PyProof.Rows hiding St mod_int startT pairsOf allFlat cutD
/-! ### the order of data -/
theorem pd_pair (x : Nat × Nat) : (pairD x).pd = .tuple [.int x.1, .int x.2] := by simp [pairD, D.pd, D.pds]
theorem pd_prod (A : List (Nat × Nat)) : (prodD A).pd = .tuple (A.map fun x => .tuple [.int x.1, .int x.2]) := by
  simp only [prodD, D.pd, pds_eq, List.map_map]
  rw [show (D.pd ∘ pairD) = fun x : Nat × Nat => PyData.tuple [.int x.1, .int x.2] from funext fun x => pd_pair x]
theorem pd_item (x : List (Nat × Nat) × Nat) : (itemD x).pd = .tuple [(prodD x.1).pd, .int x.2] := by simp [itemD, D.pd, D.pds]
theorem alike_prod (A B : List (Nat × Nat)) : PySem.W.alike (prodD A).pd (prodD B).pd = true := by
  rw [pd_prod, pd_prod, PySem.W.alike]
  induction A generalizing B with
  | nil => simp [PySem.W.alikeAll]
  | cons a A ih =>
    cases B with
    | nil => simp [PySem.W.alikeAll]
    | cons b B => simp only [List.map_cons, PySem.W.alikeAll, ih, PySem.W.alike, Bool.and_self]
theorem eqv_prod {A B : List (Nat × Nat)} (h : PyData.eqv (prodD A).pd (prodD B).pd = true) : A = B := by
  rw [pd_prod, pd_prod, PyData.eqv] at h
  induction A generalizing B with
  | nil =>
    cases B with
    | nil => rfl
    | cons b B => simp [PyData.eqvAll] at h
  | cons a A ih =>
    cases B with
    | nil => simp [PyData.eqvAll] at h
    | cons b B =>
      simp only [List.map_cons, PyData.eqvAll, PyData.eqv, Bool.and_eq_true, decide_eq_true_eq, Bool.and_true] at h
      obtain ⟨⟨h1, h2⟩, h3⟩ := h
      rw [ih h3, show a = b from Prod.ext (Int.ofNat.inj (eq_of_beq h1)) (Int.ofNat.inj (eq_of_beq h2))]
theorem lt_total {x y : PyData} (ha : PySem.W.alike x y = true) (he : PyData.eqv x y = false) (hn : PySem.W.dataLt y x = false) : PySem.W.dataLt x y = true := by
  cases hx : PySem.W.dataLt x y with
  | true => rfl
  | false =>
    have ht : PySem.W.keyToks x = PySem.W.keyToks y := (PyProof.Rows.listOrd PyProof.Rows.itemOrd).total _ _ hx hn
    have := (PySem.W.toks_eqv x y ha).2 he [] [.inl 0]
    rw [ht, PySem.W.lex_pre] at this
    have z : PyProof.Rows.lexLt PyProof.Rows.itemOrd (PySem.W.keyToks y) (PySem.W.keyToks y) = false := (PyProof.Rows.listOrd PyProof.Rows.itemOrd).irrefl _
    rw [z] at this
    exact absurd this (by simp [PyProof.Rows.lexLt])
theorem okd_pair (n : Nat) (x : Nat × Nat) : D.okd (n + 1) (pairD x) = true := by simp [pairD, D.okd, D.okds, okd_int]
theorem okd_prod (n : Nat) (A : List (Nat × Nat)) : D.okd (n + 2) (prodD A) = true := by
  rw [prodD, D.okd, okds_all]
  intro d hd
  obtain ⟨x, _, rfl⟩ := List.mem_map.mp hd
  exact okd_pair n x
theorem okd_item (n : Nat) (x : List (Nat × Nat) × Nat) : D.okd (n + 3) (itemD x) = true := by simp [itemD, D.okd, D.okds, okd_int, okd_prod n]
theorem lt_prod {A B : List (Nat × Nat)} (hne : A ≠ B) (hn : PySem.W.dataLt (prodD B).pd (prodD A).pd = false) : Lt (prodD A) (prodD B) := by
  refine ⟨?_, lt_total (alike_prod A B) ?_ hn⟩
  · unfold ordOk
    rw [okd_prod 58, okd_prod 58, alike_prod]
    rfl
  · cases e : PyData.eqv (prodD A).pd (prodD B).pd with
    | false => rfl
    | true => exact absurd (eqv_prod e) hne
/-! ### sorted, typed -/
theorem sort_typed {α : Type} {f : α → D} {g : D → α} (hg : ∀ a, g (f a) = a) (l : List α) : ∃ l' : List α, sortD (l.map f) = l'.map f ∧ l'.Perm l ∧ l'.Pairwise fun a b => PySem.W.dataLt (f b).pd (f a).pd = false := by
  have h : (sortD (l.map f)).Perm (l.map f) := List.mergeSort_perm _ _
  have p := perm_map hg h
  refine ⟨_, p.1, p.2, ?_⟩
  have s : (sortD (l.map f)).Pairwise fun a b => PySem.W.dataLe false D.pd a b = true := by
    have t := PySem.W.sortLe_total (PyProof.Rows.listOrd PyProof.Rows.itemOrd) false fun b : D => PySem.W.keyToks b.pd
    exact List.pairwise_mergeSort (fun a b c => t.trans a b c) (fun a b => by simpa using t.total a b) _
  rw [p.1, List.pairwise_map] at s
  refine s.imp fun {a b} q => ?_
  have q' : (!PySem.W.dataLt (f b).pd (f a).pd) = true := q
  simpa using q'
def unPair (d : D) : Nat × Nat := match d with
  | .tup [.int a, .int b] => (a.toNat, b.toNat)
  | _ => (0, 0)
def unProd (d : D) : List (Nat × Nat) := match d with
  | .tup ds => ds.map unPair
  | _ => []
def unItem (d : D) : List (Nat × Nat) × Nat := match d with
  | .tup [p, .int n] => (unProd p, n.toNat)
  | _ => ([], 0)
theorem unPair_eq (x : Nat × Nat) : unPair (pairD x) = x := by simp [unPair, pairD]
theorem unProd_eq (A : List (Nat × Nat)) : unProd (prodD A) = A := by
  simp only [unProd, prodD, List.map_map]
  conv => rhs; rw [← List.map_id A]
  apply List.map_congr_left
  intro x _
  exact unPair_eq x
theorem unItem_eq (x : List (Nat × Nat) × Nat) : unItem (itemD x) = x := by simp [unItem, itemD, unProd_eq]
theorem sortOk_pairs (A : List (Nat × Nat)) (hl : A.length ≤ L) : SortOk (A.map pairD) := by
  refine ⟨by simpa using hl, ?_, ?_, .inl ?_⟩
  · intro d hd
    obtain ⟨k, _, rfl⟩ := List.mem_map.mp hd
    exact okd_pair 58 k
  · intro x hx y hy
    obtain ⟨d, hd, rfl⟩ := List.mem_map.mp hx
    obtain ⟨e, he, rfl⟩ := List.mem_map.mp hy
    obtain ⟨k, _, rfl⟩ := List.mem_map.mp hd
    obtain ⟨l, _, rfl⟩ := List.mem_map.mp he
    simp [pd_pair, PySem.W.alike, PySem.W.alikeAll]
  · intro x hx
    obtain ⟨d, hd, rfl⟩ := List.mem_map.mp hx
    obtain ⟨k, _, rfl⟩ := List.mem_map.mp hd
    exact ⟨_, _, pd_pair k⟩
theorem sortOk_items (A : List (List (Nat × Nat) × Nat)) (hl : A.length ≤ L) : SortOk (A.map itemD) := by
  refine ⟨by simpa using hl, ?_, ?_, .inl ?_⟩
  · intro d hd
    obtain ⟨k, _, rfl⟩ := List.mem_map.mp hd
    exact okd_item 56 k
  · intro x hx y hy
    obtain ⟨d, hd, rfl⟩ := List.mem_map.mp hx
    obtain ⟨e, he, rfl⟩ := List.mem_map.mp hy
    obtain ⟨k, _, rfl⟩ := List.mem_map.mp hd
    obtain ⟨l, _, rfl⟩ := List.mem_map.mp he
    rw [pd_item, pd_item, PySem.W.alike, PySem.W.alikeAll, alike_prod, PySem.W.alikeAll, PySem.W.alikeAll, PySem.W.alike]
    rfl
  · intro x hx
    obtain ⟨d, hd, rfl⟩ := List.mem_map.mp hx
    obtain ⟨k, _, rfl⟩ := List.mem_map.mp hd
    exact ⟨_, _, pd_item k⟩
theorem sort_pairs (A : List (Nat × Nat)) (hn : (A.map (·.1)).Nodup) : ∃ A' : List (Nat × Nat), sortD (A.map pairD) = A'.map pairD ∧ A'.Perm A ∧ (rowsOf A').Pairwise (· < ·) := by
  obtain ⟨A', e, p, s⟩ := sort_typed unPair_eq A
  refine ⟨A', e, p, ?_⟩
  have hn' : (A'.map (·.1)).Nodup := (p.map _).nodup_iff.mpr hn
  unfold rowsOf
  rw [List.pairwise_map]
  rw [List.Nodup, List.pairwise_map] at hn'
  refine (s.and hn').imp fun {a b} q => ?_
  obtain ⟨q1, q2⟩ := q
  rw [pd_pair, pd_pair, PySem.W.dataLt_ii] at q1
  have := of_decide_eq_false q1
  omega
theorem sort_items (S : List (List (Nat × Nat) × Nat)) (hn : (S.map (·.1)).Nodup) : ∃ S' : List (List (Nat × Nat) × Nat), sortD (S.map itemD) = S'.map itemD ∧ S'.Perm S ∧ (S'.map fun x => prodD x.1).Pairwise Lt := by
  obtain ⟨A', e, p, s⟩ := sort_typed unItem_eq S
  refine ⟨A', e, p, ?_⟩
  have hn' : (A'.map (·.1)).Nodup := (p.map _).nodup_iff.mpr hn
  rw [List.pairwise_map]
  rw [List.Nodup, List.pairwise_map] at hn'
  refine (s.and hn').imp fun {a b} q => ?_
  obtain ⟨q1, q2⟩ := q
  rw [pd_item, pd_item, PySem.W.dataLt_pair (alike_prod _ _) (by simp [PySem.W.alike])] at q1
  refine lt_prod q2 ?_
  split at q1
  · rename_i z
    exact absurd (eqv_prod z).symm q2
  · exact q1
end K74

set_option Elab.async false
set_option linter.all false
set_option maxRecDepth 100000
namespace K74
open PySem PySem.Spec L2 Mp
open PyProof.Rows hiding St mod_int startT pairsOf allFlat cutD
theorem rng1 {k : Nat} (hk : k < 2 ^ 20) : rngB1 [.int (k : Int)] = some (rangeD 0 k) := by
  unfold rngB1
  have : rgOk (k : Int) = true := by
    unfold rgOk
    rw [Bool.and_eq_true, decide_eq_true_eq, decide_eq_true_eq]
    omega
  simp [this]
theorem rangeD_len (k : Nat) : (rangeD 0 k).length = k := by simp [rangeD]
theorem rangeD_get (k i : Nat) (hi : i < (rangeD 0 k).length) : (rangeD 0 k)[i] = .int (i : Int) := by simp [rangeD]
def pk (A : List (Nat × Nat)) : List (D × D) := A.map fun e => (nD e.1, nD e.2)
theorem dOk_pk (A : List (Nat × Nat)) (k : Nat) : Mp.dOk (pk A) (nD k) = true := by
  unfold Mp.dOk dFlat
  have h1 : isFlat (nD k) = true := by simp [isFlat, nD, fkey, okd_int]
  have h2 : Mp.allFlat (pk A) = true := allFlat_pairs A
  rw [h1, h2]; rfl
theorem put_pk (A : List (Nat × Nat)) (k v : Nat) (hl : A.length < L) : wrB (.int (k : Int)) (.int (v : Int)) (.dct (pk A)) = some (.dct (pk (aput A k v))) := by
  have h1 := dOk_pk A k
  have h2 := dput_map (f := nD) (g := nD) nD_inj A k v
  have h3 : (pk A).length < L := by simpa [pk] using hl
  unfold wrB
  simp only [nD] at h1 h2
  simp only [h1, h3, and_self, if_true]
  congr 2
structure PrOk (many : Nat) (A : List (Nat × Nat)) : Prop where
  nd : (A.map (·.1)).Nodup
  row : ∀ e ∈ A, e.1 < many
  tim : ∀ e ∈ A, 1 ≤ e.2
theorem PrOk.put {many : Nat} {A : List (Nat × Nat)} (h : PrOk many A) {k v : Nat} (hk : k < many) (hv : 1 ≤ v) : PrOk many (aput A k v) := ⟨aput_nodup h.nd, fun e he => by
  rcases aput_val he with rfl | q
  · exact hk
  · exact h.row e q, fun e he => by
  rcases aput_val he with rfl | q
  · exact hv
  · exact h.tim e q⟩
noncomputable def inn : SM := (mSeq (mSubV 4 (fm (mOwn F__law_draw (mCons (mVar 0) (mCons (mVar 1) mNil)))) (fm (mBin oAdd (mLit (.int 1)) (fm (mOwn F__law_draw (mCons (mVar 0) (mCons (mLit (.int 2)) mNil)))))))
    mNext)
theorem inn_eq (n many k : Nat) (hk : k ≤ 4) (hm : 0 < many) (hm2 : many < 2 ^ 20) (x2 x3 x5 : Sl) (h : EH) (hb : Bag h n) :
    ∃ A x5' h', PrOk many A ∧ A.length ≤ k ∧ Bag h' n ∧ forGo (fun _ => true) (.nm 5) inn (rangeD 0 k) [.pu (.ref n), .pu (.int (many : Int)), x2, x3, .ow (.dct []), x5] h = .nx [.pu (.ref n), .pu (.int (many : Int)), x2, x3, .ow (.dct (pk A)), x5'] h' := by
  have key := for_ix (chk := fun _ => true) (t := .nm 5) (b := inn) (rangeD 0 k) (fun i τ h => i ≤ k → Bag h n ∧ ∃ A x5, τ = [.pu (.ref n), .pu (.int (many : Int)), x2, x3, .ow (.dct (pk A)), x5] ∧ PrOk many A ∧ A.length ≤ i) 0 (τ := [.pu (.ref n), .pu (.int (many : Int)), x2, x3, .ow (.dct []), x5]) (h := h)
    (fun _ => ⟨hb, [], x5, rfl, ⟨by simp, by simp, by simp⟩, by simp⟩) (fun _ _ _ _ => rfl) (by
      intro i hi τ h q
      rw [rangeD_len] at hi
      obtain ⟨hb, A, x5, rfl, ok, hl⟩ := q (by omega)
      obtain ⟨v, h1, d1, v1, b1⟩ := draw_eq hb (many := 2) (by decide) (by decide)
      obtain ⟨r, h2, d2, v2, b2⟩ := draw_eq b1 hm hm2
      have pp := put_pk A r (1 + v) (Nat.lt_of_le_of_lt hl (Nat.lt_of_lt_of_le (show 0 + i < 5 by omega) (by decide)))
      refine ⟨_, [.pu (.ref n), .pu (.int (many : Int)), x2, x3, .ow (.dct (pk (aput A r (1 + v)))), .pu (.int (i : Int))], h2, fOf_nm, .inl ?_, fun _ => ⟨b2, _, _, rfl, ok.put v2 (by omega), ?_⟩⟩
      · simp at d1 pp
        simp [inn, rangeD_get, mSubV, d1, d2, isBox, wrV, pp]
      · have := aput_len (A := A) (k := r) (v := 1 + v); omega)
  obtain ⟨τ', h', q, g⟩ := key
  rw [rangeD_len] at q
  obtain ⟨b, A, x5', rfl, ok, hl⟩ := q (by omega)
  exact ⟨A, x5', h', ok, by omega, b, g⟩
theorem pairs_pk (A : List (Nat × Nat)) : pairs (pk A) = A.map pairD := by
  simp only [pairs, pk, List.map_map]
  rfl
theorem sortIt_pk (A : List (Nat × Nat)) (hn : (A.map (·.1)).Nodup) (hl : A.length ≤ 40) : ∃ A' : List (Nat × Nat), A'.Perm A ∧ (rowsOf A').Pairwise (· < ·) ∧ ∀ (m : EM) τ h h1, m τ h = .ok (.dct (pk A)) h1 → mSortIt m τ h = .ok (.ow (.lst (A'.map pairD))) h1 := by
  obtain ⟨A', e, p, q⟩ := sort_pairs A hn
  refine ⟨A', p, q, fun m τ h h1 em => ?_⟩
  unfold mSortIt
  rw [em, v_bok]
  have so := sortOk_pairs A (Nat.le_trans hl (by decide))
  rw [← pairs_pk] at so e
  simp only [der_dc]
  rw [if_pos so, e]
/-! ### the outer dict -/
def sk (S : List (List (Nat × Nat) × Nat)) : List (D × D) := S.map fun e => (prodD e.1, nD e.2)
theorem prodD_inj : ∀ a b, prodD a = prodD b → a = b := fun a b h => by rw [← unProd_eq a, ← unProd_eq b, h]
theorem key_prod (A : List (Nat × Nat)) : (D.key (prodD A)).isSome = true := by
  have : (D.keys (A.map pairD)).isSome = true := by
    induction A with
    | nil => simp [D.keys]
    | cons a A ih =>
      obtain ⟨ks, e⟩ := Option.isSome_iff_exists.mp ih
      simp [D.keys, pairD, D.key, e]
  simp [prodD, D.key, this]
theorem isT (A : List (Nat × Nat)) : Mp.isTkey (prodD A) = true := by
  unfold Mp.isTkey
  rw [key_prod, okd_prod 6]
  rfl
theorem dOk_sk (S : List (List (Nat × Nat) × Nat)) (A : List (Nat × Nat)) : Mp.dOk (sk S) (prodD A) = true := by
  unfold Mp.dOk dTup
  have h2 : Mp.allTkey (sk S) = true := by
    unfold Mp.allTkey
    rw [List.all_eq_true]
    intro e he
    obtain ⟨x, _, rfl⟩ := List.mem_map.mp he
    exact isT x.1
  rw [isT, h2]
  simp
theorem put_sk (S : List (List (Nat × Nat) × Nat)) (A : List (Nat × Nat)) (v : Nat) (hl : S.length < L) : wrB (prodD A) (.int (v : Int)) (.dct (sk S)) = some (.dct (sk (aput S A v))) := by
  have h1 := dOk_sk S A
  have h2 := dput_map (f := prodD) (g := nD) prodD_inj S A v
  have h3 : (sk S).length < L := by simpa [sk] using hl
  unfold wrB
  simp only [nD] at h2
  simp only [h1, h3, and_self, if_true]
  congr 2
theorem pairs_sk (S : List (List (Nat × Nat) × Nat)) : pairs (sk S) = S.map itemD := by
  simp only [pairs, sk, List.map_map]
  rfl
theorem sortIt_sk (S : List (List (Nat × Nat) × Nat)) (hn : (S.map (·.1)).Nodup) (hl : S.length ≤ 40) : ∃ S' : List (List (Nat × Nat) × Nat), S'.Perm S ∧ (S'.map fun x => prodD x.1).Pairwise Lt ∧ ∀ (m : EM) τ h h1, m τ h = .ok (.dct (sk S)) h1 → mSortIt m τ h = .ok (.ow (.lst (S'.map itemD))) h1 := by
  obtain ⟨A', e, p, q⟩ := sort_items S hn
  refine ⟨A', p, q, fun m τ h h1 em => ?_⟩
  unfold mSortIt
  rw [em, v_bok]
  have so := sortOk_items S (Nat.le_trans hl (by decide))
  rw [← pairs_sk] at so e
  simp only [der_dc]
  rw [if_pos so, e]
end K74

set_option Elab.async false
set_option linter.all false
set_option maxRecDepth 100000
namespace K74
open PySem PySem.Spec L2 Mp
open PyProof.Rows hiding St mod_int startT pairsOf allFlat cutD
/-- a drawn sum -/
structure Drawn (many : Nat) (S : List (List (Nat × Nat) × Nat)) : Prop where
  len : S.length ≤ 5
  pr : ∀ x ∈ S, PrOk many x.1 ∧ x.1.length ≤ 3 ∧ (rowsOf x.1).Pairwise (· < ·) ∧ 1 ≤ x.2 ∧ x.2 ≤ 3
  key : (S.map fun x => prodD x.1).Pairwise Lt
noncomputable def outer : SM := (mSeq (mSet 4 mDct0)
    (mSeq (mFor (mRng rngB1 (mCons (fm (mOwn F__law_draw (mCons (mVar 0) (mCons (mLit (.int 4)) mNil)))) mNil)) (.nm 5)
      (mSeq (mSubV 4 (fm (mOwn F__law_draw (mCons (mVar 0) (mCons (mVar 1) mNil)))) (fm (mBin oAdd (mLit (.int 1)) (fm (mOwn F__law_draw (mCons (mVar 0) (mCons (mLit (.int 2)) mNil)))))))
    mNext))
    (mSeq (mSubV 2 (fm (mCall gTuple (mCons (fm (mSortIt (mPeek 4))) mNil))) (fm (mBin oAdd (mLit (.int 1)) (fm (mOwn F__law_draw (mCons (mVar 0) (mCons (mLit (.int 3)) mNil)))))))
    mNext)))
theorem perm_prOk {many : Nat} {A A' : List (Nat × Nat)} (p : A'.Perm A) (h : PrOk many A) : PrOk many A' := ⟨(p.map _).nodup_iff.mpr h.nd, fun e he => h.row e (p.mem_iff.mp he), fun e he => h.tim e (p.mem_iff.mp he)⟩
theorem law_sum_eq (n many : Nat) (hm : 0 < many) (hm2 : many < 2 ^ 20) (h : EH) (hb : Bag h n) :
    ∃ S h', Drawn many S ∧ Bag h' n ∧ F__law_sum [.ref n, .int (many : Int)] h = .ok (.pu (sumD S)) h' := by
  obtain ⟨k, h0, d0, k6, b0⟩ := draw_eq hb (many := 6) (by decide) (by decide)
  have key := for_ix (chk := fun _ => true) (t := .nm 3) (b := outer) (rangeD 0 k) (fun i τ h => i ≤ k → Bag h n ∧ ∃ S x3 x4 x5, τ = [.pu (.ref n), .pu (.int (many : Int)), .ow (.dct (sk S)), x3, x4, x5] ∧ (S.map (·.1)).Nodup ∧ S.length ≤ i ∧
      ∀ x ∈ S, PrOk many x.1 ∧ x.1.length ≤ 3 ∧ (rowsOf x.1).Pairwise (· < ·) ∧ 1 ≤ x.2 ∧ x.2 ≤ 3) 0 (τ := [.pu (.ref n), .pu (.int (many : Int)), .ow (.dct []), .em, .em, .em]) (h := h0)
    (fun _ => ⟨b0, [], _, _, _, rfl, by simp, by simp, by simp⟩) (fun _ _ _ _ => rfl) (by
      intro i hi τ h q
      rw [rangeD_len] at hi
      obtain ⟨hb, S, x3, x4, x5, rfl, nd, hl, ok⟩ := q (by omega)
      obtain ⟨c, h1, d1, v1, b1⟩ := draw_eq hb (many := 4) (by decide) (by decide)
      obtain ⟨A, y5, h2, okA, lA, b2, e2⟩ := inn_eq n many c (by omega) hm hm2 (.ow (.dct (sk S))) (.pu (.int (i : Int))) x5 h1 b1
      obtain ⟨A', pA, sA, eA⟩ := sortIt_pk A okA.nd (by omega)
      obtain ⟨v, h3, d3, v3, b3⟩ := draw_eq b2 (many := 3) (by decide) (by decide)
      have pp := put_sk S A' (1 + v) (Nat.lt_of_le_of_lt hl (Nat.lt_of_lt_of_le (show 0 + i < 6 by omega) (by decide)))
      refine ⟨[.pu (.ref n), .pu (.int (many : Int)), .ow (.dct (sk S)), .pu (.int (i : Int)), x4, x5], [.pu (.ref n), .pu (.int (many : Int)), .ow (.dct (sk (aput S A' (1 + v)))), .pu (.int (i : Int)), .ow (.dct (pk A)), y5], h3, by simp [rangeD_get], .inl ?_, fun _ => ⟨b3, _, _, _, _, rfl, aput_nodup nd, ?_, ?_⟩⟩
      · have r1 := rng1 (k := c) (by omega)
        simp only [inn] at e2
        simp at d1 d3 pp
        have es : mSortIt (mPeek 4) [.pu (.ref n), .pu (.int (many : Int)), .ow (.dct (sk S)), .pu (.int (i : Int)), .ow (.dct (pk A)), y5] h3 = .ok (.ow (.lst (A'.map pairD))) h3 := eA _ _ _ _ (by simp)
        simp [outer, d1, r1, e2, mSubV, d3, isBox, wrV, es]
        rw [show D.tup (A'.map pairD) = prodD A' from rfl, pp]
        simp
      · have := aput_len (A := S) (k := A') (v := 1 + v); omega
      · intro x hx
        rcases aput_val hx with rfl | q
        · exact ⟨perm_prOk pA okA, by rw [pA.length_eq]; omega, sA, by simp, by simp; omega⟩
        · exact ok x q)
  obtain ⟨τ', h', q, g⟩ := key
  rw [rangeD_len] at q
  obtain ⟨b, S, x3, x4, x5, rfl, nd, hl, ok⟩ := q (by omega)
  obtain ⟨S', pS, sS, eS⟩ := sortIt_sk S nd (by omega)
  refine ⟨S', h', ⟨by rw [pS.length_eq]; omega, fun x hx => ok x (pS.mem_iff.mp hx), sS⟩, b, ?_⟩
  have es : mSortIt (mPeek 2) [.pu (.ref n), .pu (.int (many : Int)), .ow (.dct (sk S)), x3, x4, x5] h' = .ok (.ow (.lst (S'.map itemD))) h' := eS _ _ _ _ (by simp)
  have r1 := rng1 (k := k) (by omega)
  simp only [outer] at g
  simp at d0
  show bodyEnd (m__law_sum [.pu (.ref n), .pu (.int (many : Int)), .em, .em, .em, .em] h) = _
  simp only [m__law_sum]
  simp [d0, r1, g, es]
  rfl
def six : List (Nat × Nat) := [(1, 2), (0, 1), (1, 1), (1, 3), (3, 4), (2, 5)]
theorem law_one_eq (n : Nat) (h : EH) (hb : Bag h n) : ∃ x h', x ∈ six ∧ Bag h' n ∧ F__law_one [.ref n, .lst (six.map pairD)] h = .ok (.pu (pairD x)) h' := by
  obtain ⟨k, h0, d0, k6, b0⟩ := draw_eq hb (many := 6) (by decide) (by decide)
  have hk : six[k]? = some six[k] := List.getElem?_eq_getElem k6
  refine ⟨six[k], h0, List.getElem_mem _, b0, ?_⟩
  have e := atI_map (f := pairD) hk
  have l6 : (six.map pairD).length = 6 := rfl
  simp at d0
  show bodyEnd (m__law_one [.pu (.ref n), .pu (.lst (six.map pairD))] h) = _
  generalize six.map pairD = sp at *
  simp [m__law_one, l6, d0, e]
end K74

set_option Elab.async false
set_option linter.all false
set_option maxRecDepth 100000
namespace K74
open PySem PySem.Spec L2 Mp
open PyProof.Rows hiding St mod_int startT pairsOf allFlat cutD
/-! ### worlds -/
def worldD (w : List Nat) : D := .tup (w.map nD)
def allW : Nat → List (List Nat)
  | 0 => [[]]
  | k + 1 => allW k ++ (allW k).map fun w => w ++ [k]
theorem allW_len : ∀ k, (allW k).length = 2 ^ k
  | 0 => rfl
  | k + 1 => by simp [allW, allW_len k]; omega
theorem allW_wlen : ∀ k, ∀ w ∈ allW k, w.length ≤ k
  | 0, w, h => by simp [allW] at h; simp [h]
  | k + 1, w, h => by
    simp only [allW, List.mem_append, List.mem_map] at h
    rcases h with h | ⟨v, h, rfl⟩
    · have := allW_wlen k w h; omega
    · have := allW_wlen k v h; simp; omega
theorem law_all_eq (many : Nat) (hm : many ≤ 6) (h : EH) : F__law_all [.int (many : Int)] h = .ok (.ow (.lst ((allW many).map worldD))) h := by
  have key := for_ix (chk := fun _ => true) (t := .nm 2) (b := (mSeq (mSet 1 (mBin oAdd (mPeek 1) (fm (mLc (mWalk (mPeek 1)) (.nm 3) [3] mYes (fm (mBin oAdd (mPeek 3) (mTup (mCons (mVar 2) mNil))))))))
    mNext)) (rangeD 0 many) (fun i τ h' => i ≤ many → h' = h ∧ ∃ x2 x3, τ = [.pu (.int (many : Int)), .ow (.lst ((allW i).map worldD)), x2, x3]) 0 (τ := [.pu (.int (many : Int)), .ow (.lst [.tup []]), .em, .em]) (h := h)
    (fun _ => ⟨rfl, _, _, rfl⟩) (fun _ _ _ _ => rfl) (by
      intro i hi τ h' q
      rw [rangeD_len] at hi
      obtain ⟨rfl, x2, x3, rfl⟩ := q (by omega)
      refine ⟨[.pu (.int (many : Int)), .ow (.lst ((allW (0 + i)).map worldD)), .pu (.int (i : Int)), x3], [.pu (.int (many : Int)), .ow (.lst ((allW (0 + i + 1)).map worldD)), .pu (.int (i : Int)), x3], h', by simp [rangeD_get], .inl ?_, fun _ => ⟨rfl, _, _, rfl⟩⟩
      rw [Nat.zero_add]
      have e := lc_map (chk := isAs (.lst ((allW i).map worldD)) (.lst ((allW i).map worldD))) (blk := lcB (.nm 3) [.pu (.int (many : Int)), .ow (.lst ((allW i).map worldD)), .pu (.int (i : Int)), .em] mYes (fm (mBin oAdd (mPeek 3) (mTup (mCons (mVar 2) mNil)))))
        (f := fun d => match d with
          | .tup ds => [.tup (ds ++ [nD i])]
          | _ => []) (h := h') (by simp) ((allW i).map worldD) (by
          intro d hd
          obtain ⟨w, hw, rfl⟩ := List.mem_map.mp hd
          have hl : w.length + 1 ≤ L := by
            have := allW_wlen i w hw
            exact Nat.le_trans (show w.length + 1 ≤ 7 by omega) (by decide)
          simp [lcB, worldD, oAdd, hl, nD])
      have e2 : ((allW i).map worldD).flatMap (fun d => match d with
          | .tup ds => [D.tup (ds ++ [nD i])]
          | _ => []) = ((allW i).map fun w => w ++ [i]).map worldD := by
        rw [List.map_map]
        generalize allW i = ws
        induction ws with
        | nil => rfl
        | cons w ws ih => simp [worldD] at ih ⊢; exact ih
      rw [e2] at e
      have p6 : 2 ^ i ≤ 2 ^ 6 := Nat.pow_le_pow_right (by decide) (by omega)
      rw [show 2 ^ 6 = 64 from rfl] at p6
      have hl : (((allW i).map fun w => w ++ [i]).map worldD).length ≤ L := by
        rw [List.length_map, List.length_map, allW_len]
        exact Nat.le_trans p6 (by decide)
      have hl2 : ((allW i).map worldD).length + (((allW i).map fun w => w ++ [i]).map worldD).length ≤ L := by
        simp only [List.length_map, allW_len]
        exact Nat.le_trans (show 2 ^ i + 2 ^ i ≤ 128 by omega) (by decide)
      have ea : oAdd h' (.lst ((allW i).map worldD)) (.lst (((allW i).map fun w => w ++ [i]).map worldD)) = some (.ow (.lst ((allW (i + 1)).map worldD))) := by
        unfold oAdd
        simp only [if_pos hl2, allW, List.map_append]
      generalize (((allW i).map fun w => w ++ [i]).map worldD) = ys at e hl ea
      simp [wipeT, e, lcEnd_ok hl, ea])
  obtain ⟨τ', h', q, g⟩ := key
  rw [rangeD_len] at q
  obtain ⟨rfl, x2, x3, rfl⟩ := q (by omega)
  have r1 := rng1 (k := many) (by omega)
  show bodyEnd (m__law_all [.pu (.int (many : Int)), .em, .em, .em] h') = _
  simp only [m__law_all]
  simp -implicitDefEqProofs [r1, g]
theorem law_same_eq {r : Rat} {x y : Nat} (hy : y ≠ 0) (hy2 : y < 2 ^ 64) (hd : r.den < 2 ^ 64) (hr : 0 ≤ r) (e : r = (x : Rat) / (y : Rat)) (h : EH) : F__law_same [rt r, .tup [.int (x : Int), .int (y : Int)]] h = .ok (.pu (.bl true)) h := by
  obtain ⟨n, hn⟩ := num_nn hr
  have h1 : ((y : Int)).natAbs < 2 ^ 64 := by simpa using hy2
  have h2 : ((r.den : Int)).natAbs < 2 ^ 64 := by simpa using hd
  have k : n * y = r.den * x := by
    have e1 := rt_nat hn
    have z1 := natQ hy
    have z2 := natQ r.den_nz
    have : (n : Rat) * y = r.den * x := by
      rw [e] at e1
      grind
    rw [← Rat.natCast_mul, ← Rat.natCast_mul, Rat.natCast_inj] at this
    exact this
  have k' : (n : Int) * y = r.den * x := by rw [← Int.natCast_mul, k, Int.natCast_mul]
  show bodyEnd (m__law_same [.pu (rt r), .pu (.tup [.int (x : Int), .int (y : Int)])] h) = _
  simp [m__law_same, rt, hn, mul_r h1, mul_l h2, k']
theorem low_loop (h : EH) (s0 : Sl) : ∀ (n : Nat) (a b : Nat), b < n → ∃ x, whileN (mTst (mBin oGt (mPeek 2) (mLit (.int 0)))) (mSeq (mPar 1 2 (mCons (mVar 2) (mCons (fm (mBin oMod (mPeek 1) (mPeek 2))) mNil))) mNext) n [s0, .pu (.int (a : Int)), .pu (.int (b : Int))] h = .nx [s0, .pu (.int (Nat.gcd a b : Nat)), x] h
  | 0, _, _, hn => absurd hn (by omega)
  | n + 1, a, b, hn => by
    by_cases h0 : b = 0
    · subst h0
      refine ⟨.pu (.int 0), ?_⟩
      simp [whileN]
    · obtain ⟨x, e⟩ := low_loop h s0 n b (a % b) (by have := Nat.mod_lt a (Nat.pos_of_ne_zero h0); omega)
      refine ⟨x, ?_⟩
      rw [← gcd_step, ← e]
      have h1 : (b : Int) ≠ 0 := by omega
      have h2 : 0 < b := by omega
      simp [whileN, h1, h2, Mp.mod_int h1, fmod_nat]
theorem law_low_eq {r : Rat} (hr : 0 ≤ r) (h : EH) : F__law_is_low [rt r] h = .ok (.pu (.bl true)) h := by
  obtain ⟨n, hn⟩ := num_nn hr
  have hg : Nat.gcd n r.den = 1 := by
    have := r.reduced
    rw [hn] at this
    exact this
  obtain ⟨x, e⟩ := low_loop h (.pu (rt r)) (r.den + 1) n r.den (by omega)
  have e' := while_eq (by simp) e
  have hp : 0 < r.den := r.den_pos
  show bodyEnd (m__law_is_low [.pu (rt r), .em, .em] h) = _
  simp [rt, hn] at e'
  simp [m__law_is_low, rt, hn, e', hg, hp]
theorem pow18 (h : EH) : oPow h (.int 10) (.int 18) = some (.pu (.int 1000000000000000000)) := by rfl
theorem law_bag_eq (ns : List Int) (k : Nat) (h : EH) : ∃ a b c : Int, 0 ≤ a ∧ F__law_bag [.fzl (ns.map .int), .int (k : Int)] h = .ok (.ow (.lst [.int a, .int b, .int c])) h := by
  by_cases hk : k < ns.length
  · have hx : (ns.map D.int)[k]? = some (.int ns[k]) := by simp [hk]
    have e := atI_n hx
    have hl : (k : Int) < (ns.map D.int).length := by simp; omega
    by_cases hc : 1000000000000000000 ≤ ns[k]
    · refine ⟨ns[k], ns[k], k, by omega, ?_⟩
      show bodyEnd (m__law_bag [.pu (.fzl (ns.map .int)), .pu (.int (k : Int)), .em] h) = _
      simp [m__law_bag, hk, e, pow18, hc]
    · refine ⟨0, ns[k], k, by omega, ?_⟩
      show bodyEnd (m__law_bag [.pu (.fzl (ns.map .int)), .pu (.int (k : Int)), .em] h) = _
      simp [m__law_bag, hk, e, pow18, hc]
  · refine ⟨0, 0, k, by omega, ?_⟩
    show bodyEnd (m__law_bag [.pu (.fzl (ns.map .int)), .pu (.int (k : Int)), .em] h) = _
    simp [m__law_bag, hk, pow18]
end K74

set_option Elab.async false
set_option linter.all false
set_option maxRecDepth 100000
namespace K74
open PySem PySem.Spec L2 Mp
open PyProof.Rows hiding St mod_int startT pairsOf allFlat cutD
/-! ### worlds and their weights -/
def pn (P : List (Nat × Nat)) (r : Nat) : Nat := (P.getD r (1, 1)).1
def dn (P : List (Nat × Nat)) (r : Nat) : Nat := (P.getD r (1, 1)).2
def wt (P : List (Nat × Nat)) : Nat → List Nat → Nat
  | 0, _ => 1
  | k + 1, w => wt P k w * (if k ∈ w then pn P k else dn P k - pn P k)
def Qn (P : List (Nat × Nat)) : Nat → Nat
  | 0 => 1
  | k + 1 => Qn P k * dn P k
def has (w rows : List Nat) : Bool := rows.all fun r => decide (r ∈ w)
def sumW (f : List Nat → Nat) (ws : List (List Nat)) : Nat := (ws.map f).sum
theorem sumW_app (f : List Nat → Nat) (a b : List (List Nat)) : sumW f (a ++ b) = sumW f a + sumW f b := by simp [sumW]
theorem sumW_congr {f g : List Nat → Nat} {ws : List (List Nat)} (h : ∀ w ∈ ws, f w = g w) : sumW f ws = sumW g ws := by
  unfold sumW
  rw [List.map_congr_left h]
theorem sumW_mul (c : Nat) (f : List Nat → Nat) (ws : List (List Nat)) : sumW (fun w => f w * c) ws = sumW f ws * c := by
  unfold sumW
  induction ws with
  | nil => simp
  | cons w ws ih => simp only [List.map_cons, List.sum_cons, ih]; grind
theorem sumW_map (g : List Nat → List Nat) (f : List Nat → Nat) (ws : List (List Nat)) : sumW f (ws.map g) = sumW (fun w => f (g w)) ws := by
  unfold sumW
  rw [List.map_map]; rfl
theorem allW_lt : ∀ k, ∀ w ∈ allW k, ∀ r ∈ w, r < k
  | 0, w, h => by simp [allW] at h; simp [h]
  | k + 1, w, h => by
    simp only [allW, List.mem_append, List.mem_map] at h
    rcases h with h | ⟨v, h, rfl⟩
    · intro r hr; have := allW_lt k w h r hr; omega
    · intro r hr
      rw [List.mem_append, List.mem_singleton] at hr
      rcases hr with hr | hr
      · have := allW_lt k v h r hr; omega
      · omega
theorem wt_app (P : List (Nat × Nat)) (w : List Nat) (k : Nat) : ∀ j, j ≤ k → wt P j (w ++ [k]) = wt P j w
  | 0, _ => rfl
  | j + 1, hj => by
    unfold wt
    rw [wt_app P w k j (by omega)]
    congr 1
    have : (j ∈ w ++ [k]) ↔ j ∈ w := by
      rw [List.mem_append, List.mem_singleton]
      constructor
      · rintro (h | h)
        · exact h
        · omega
      · exact .inl
    simp only [this]
/-- the worlds that hold these rows, by weight -/
def cov (P : List (Nat × Nat)) (k : Nat) (rows : List Nat) : Nat := sumW (fun w => wt P k w * (if has w rows = true then 1 else 0)) (allW k)
theorem has_app {w rows : List Nat} {k : Nat} (h : k ∉ rows) : has (w ++ [k]) rows = has w rows := by
  unfold has
  rw [Bool.eq_iff_iff, List.all_eq_true, List.all_eq_true]
  constructor
  · intro q r hr
    have := of_decide_eq_true (q r hr)
    rw [List.mem_append, List.mem_singleton] at this
    rcases this with z | z
    · exact decide_eq_true z
    · exact absurd (z ▸ hr) h
  · intro q r hr
    have := of_decide_eq_true (q r hr)
    exact decide_eq_true (List.mem_append_left _ this)
theorem has_out {w rows : List Nat} {k : Nat} (h : k ∈ rows) (hw : k ∉ w) : has w rows = false := by
  cases e : has w rows with
  | false => rfl
  | true => exact absurd (of_decide_eq_true (List.all_eq_true.mp e k h)) hw
theorem has_in {w rows : List Nat} {k : Nat} (hn : rows.Nodup) : has (w ++ [k]) rows = has w (rows.erase k) := by
  unfold has
  rw [Bool.eq_iff_iff, List.all_eq_true, List.all_eq_true]
  constructor
  · intro q r hr
    rw [hn.mem_erase_iff] at hr
    have := of_decide_eq_true (q r hr.2)
    rw [List.mem_append, List.mem_singleton] at this
    rcases this with z | z
    · exact decide_eq_true z
    · exact absurd z hr.1
  · intro q r hr
    by_cases e : r = k
    · exact decide_eq_true (by rw [e]; simp)
    · have := of_decide_eq_true (q r (hn.mem_erase_iff.mpr ⟨e, hr⟩))
      exact decide_eq_true (List.mem_append_left _ this)
theorem cov_eq (P : List (Nat × Nat)) (hP : ∀ r, pn P r ≤ dn P r) : ∀ (k : Nat) (rows : List Nat), rows.Nodup → (∀ r ∈ rows, r < k) → cov P k rows * dOf P rows = pOf P rows * Qn P k
  | 0, rows, _, hr => by
    have : rows = [] := by
      cases rows with
      | nil => rfl
      | cons r rs => exact absurd (hr r List.mem_cons_self) (by omega)
    subst this
    simp [cov, sumW, allW, wt, has, dOf, pOf, Qn]
  | k + 1, rows, hn, hr => by
    have step : cov P (k + 1) rows = sumW (fun w => wt P k w * (if has w rows = true then 1 else 0)) (allW k) * (dn P k - pn P k) + sumW (fun w => wt P k w * (if has (w ++ [k]) rows = true then 1 else 0)) (allW k) * pn P k := by
      unfold cov
      rw [allW, sumW_app, sumW_map, ← sumW_mul, ← sumW_mul]
      congr 1
      · refine sumW_congr fun w hw => ?_
        have : k ∉ w := fun z => by have := allW_lt k w hw k z; omega
        simp only [wt, this, if_false]
        grind
      · refine sumW_congr fun w hw => ?_
        have : k ∈ w ++ [k] := by simp
        simp only [wt, this, if_true, wt_app P w k k (Nat.le_refl _)]
        grind
    by_cases hk : k ∈ rows
    · have z : sumW (fun w => wt P k w * (if has w rows = true then 1 else 0)) (allW k) = 0 := by
        rw [sumW_congr (g := fun _ => 0)]
        · unfold sumW
          generalize allW k = ws
          induction ws with
          | nil => rfl
          | cons w ws ih => simp [ih]
        · intro w hw
          have : k ∉ w := fun z => by have := allW_lt k w hw k z; omega
          rw [has_out hk this]
          simp
      have z2 : sumW (fun w => wt P k w * (if has (w ++ [k]) rows = true then 1 else 0)) (allW k) = cov P k (rows.erase k) := by
        unfold cov
        exact sumW_congr fun w _ => by rw [has_in hn]
      have ih := cov_eq P hP k (rows.erase k) (hn.erase k) fun r q => by
        rw [hn.mem_erase_iff] at q
        have := hr r q.2
        omega
      have pm : rows.Perm (k :: rows.erase k) := List.perm_cons_erase hk
      have e1 : dOf P rows = dn P k * dOf P (rows.erase k) := by rw [dOf_perm pm]; simp [dOf, dn]
      have e2 : pOf P rows = pn P k * pOf P (rows.erase k) := by rw [pOf_perm pm]; simp [pOf, pn]
      rw [step, z, z2, e1, e2, Qn]
      grind
    · have z2 : sumW (fun w => wt P k w * (if has (w ++ [k]) rows = true then 1 else 0)) (allW k) = cov P k rows := by
        unfold cov
        exact sumW_congr fun w _ => by rw [has_app hk]
      have ih := cov_eq P hP k rows hn fun r q => by
        have := hr r q
        have : r ≠ k := fun z => hk (z ▸ q)
        omega
      rw [step, z2, show sumW (fun w => wt P k w * (if has w rows = true then 1 else 0)) (allW k) = cov P k rows from rfl, Qn]
      have := hP k
      have e : cov P k rows * (dn P k - pn P k) + cov P k rows * pn P k = cov P k rows * dn P k := by
        rw [← Nat.mul_add, Nat.sub_add_cancel this]
      rw [e]
      grind
end K74

set_option Elab.async false
set_option linter.all false
set_option maxRecDepth 100000
namespace K74
open PySem PySem.Spec L2 Mp
open PyProof.Rows hiding St mod_int startT pairsOf allFlat cutD
/-! ### matches -/
def mt (S : List (List (Nat × Nat) × Nat)) (w : List Nat) : Nat := (S.map fun x => if has w (rowsOf x.1) = true then x.2 else 0).sum
theorem mt_cons (x : List (Nat × Nat) × Nat) (S : List (List (Nat × Nat) × Nat)) (w : List Nat) : mt (x :: S) w = (if has w (rowsOf x.1) = true then x.2 else 0) + mt S w := by simp [mt]
theorem sumW_add (f g : List Nat → Nat) (ws : List (List Nat)) : sumW (fun w => f w + g w) ws = sumW f ws + sumW g ws := by
  unfold sumW
  induction ws with
  | nil => rfl
  | cons w ws ih => simp only [List.map_cons, List.sum_cons, ih]; omega
theorem sumW_zero (ws : List (List Nat)) : sumW (fun _ => 0) ws = 0 := by
  unfold sumW
  induction ws with
  | nil => rfl
  | cons w ws ih => simp [ih]
theorem cov_rat {P : List (Nat × Nat)} {k : Nat} {rows : List Nat} (hP : ∀ r, pn P r ≤ dn P r) (hd : dOf P rows ≠ 0) (hn : rows.Nodup) (hr : ∀ r ∈ rows, r < k) : ((cov P k rows : Nat) : Rat) = pr P rows * (Qn P k : Rat) := by
  have e := cov_eq P hP k rows hn hr
  have e' : ((cov P k rows : Nat) : Rat) * (dOf P rows : Rat) = (pOf P rows : Rat) * (Qn P k : Rat) := by rw [← Rat.natCast_mul, e, Rat.natCast_mul]
  have z := natQ hd
  unfold pr
  grind
structure WOk (P : List (Nat × Nat)) (k : Nat) : Prop where
  le : ∀ r, pn P r ≤ dn P r
  nz : ∀ rows, dOf P rows ≠ 0
def first (P : List (Nat × Nat)) (k : Nat) (S : List (List (Nat × Nat) × Nat)) : Nat := sumW (fun w => wt P k w * mt S w) (allW k)
def second (P : List (Nat × Nat)) (k : Nat) (S S' : List (List (Nat × Nat) × Nat)) : Nat := sumW (fun w => wt P k w * mt S' w * mt S w) (allW k)
def RowsOk (k : Nat) (S : List (List (Nat × Nat) × Nat)) : Prop := ∀ x ∈ S, (rowsOf x.1).Nodup ∧ ∀ r ∈ rowsOf x.1, r < k
theorem first_eq {P : List (Nat × Nat)} {k : Nat} (hW : WOk P k) : ∀ (S : List (List (Nat × Nat) × Nat)), RowsOk k S → ((first P k S : Nat) : Rat) = ev P S * (Qn P k : Rat)
  | [], _ => by
    have : first P k [] = 0 := by
      unfold first
      rw [sumW_congr (g := fun _ => 0) fun w _ => by simp [mt], sumW_zero]
    rw [this]
    simp [ev]
  | x :: S, h => by
    have ih := first_eq hW S fun y hy => h y (List.mem_cons_of_mem _ hy)
    have hx := h x List.mem_cons_self
    have c := cov_rat (k := k) hW.le (hW.nz _) hx.1 hx.2
    have e : first P k (x :: S) = x.2 * cov P k (rowsOf x.1) + first P k S := by
      unfold first cov
      rw [Nat.mul_comm, ← sumW_mul, ← sumW_add]
      refine sumW_congr fun w _ => ?_
      rw [mt_cons, Nat.mul_add]
      congr 1
      split <;> simp
    rw [e, Rat.natCast_add, Rat.natCast_mul, ih, c, ev_cons]
    grind
theorem has_un (w : List Nat) (A B : List (Nat × Nat)) : has w (un A B) = (has w (rowsOf A) && has w (rowsOf B)) := by
  unfold has
  rw [Bool.eq_iff_iff, Bool.and_eq_true, List.all_eq_true, List.all_eq_true, List.all_eq_true]
  constructor
  · intro q
    exact ⟨fun r hr => q r (un_mem.mpr (.inl hr)), fun r hr => q r (un_mem.mpr (.inr hr))⟩
  · rintro ⟨a, b⟩ r hr
    rcases un_mem.mp hr with q | q
    · exact a r q
    · exact b r q
theorem second1 {P : List (Nat × Nat)} {k : Nat} (hW : WOk P k) (A : List (Nat × Nat)) (n : Nat) (hA : ∀ r ∈ rowsOf A, r < k) : ∀ (S : List (List (Nat × Nat) × Nat)), RowsOk k S →
    ((sumW (fun w => wt P k w * (if has w (rowsOf A) = true then n else 0) * mt S w) (allW k) : Nat) : Rat) = sq1 P A n S * (Qn P k : Rat)
  | [], _ => by
    rw [sumW_congr (g := fun _ => 0) fun w _ => by simp [mt], sumW_zero]
    simp [sq1]
  | y :: S, h => by
    have ih := second1 hW A n hA S fun y hy => h y (List.mem_cons_of_mem _ hy)
    have hy := h y List.mem_cons_self
    have c := cov_rat (k := k) hW.le (hW.nz (un A y.1)) (un_nodup A y.1) fun r hr => by
      rcases un_mem.mp hr with q | q
      · exact hA r q
      · exact hy.2 r q
    have e : sumW (fun w => wt P k w * (if has w (rowsOf A) = true then n else 0) * mt (y :: S) w) (allW k) = (n * y.2) * cov P k (un A y.1) + sumW (fun w => wt P k w * (if has w (rowsOf A) = true then n else 0) * mt S w) (allW k) := by
      unfold cov
      rw [Nat.mul_comm, ← sumW_mul, ← sumW_add]
      refine sumW_congr fun w _ => ?_
      rw [mt_cons, Nat.mul_add, has_un]
      congr 1
      cases has w (rowsOf A) <;> cases has w (rowsOf y.1) <;> simp
      grind
    rw [e, Rat.natCast_add, ih, Rat.natCast_mul, c, sq1_cons]
    grind
theorem second_eq {P : List (Nat × Nat)} {k : Nat} (hW : WOk P k) (S : List (List (Nat × Nat) × Nat)) (hS : RowsOk k S) : ∀ (S' : List (List (Nat × Nat) × Nat)), RowsOk k S' → ((second P k S S' : Nat) : Rat) = sq P S S' * (Qn P k : Rat)
  | [], _ => by
    have : second P k S [] = 0 := by
      unfold second
      rw [sumW_congr (g := fun _ => 0) fun w _ => by simp [mt], sumW_zero]
    rw [this]
    simp [sq]
  | x :: S', h => by
    have ih := second_eq hW S hS S' fun y hy => h y (List.mem_cons_of_mem _ hy)
    have hx := h x List.mem_cons_self
    have c := second1 hW x.1 x.2 hx.2 S hS
    have e : second P k S (x :: S') = sumW (fun w => wt P k w * (if has w (rowsOf x.1) = true then x.2 else 0) * mt S w) (allW k) + second P k S S' := by
      unfold second
      rw [← sumW_add]
      refine sumW_congr fun w _ => ?_
      rw [mt_cons]
      grind
    rw [e, Rat.natCast_add, ih, c, sq_cons]
    grind
/-! ### weighted values -/
def sW (l : List (Nat × Nat)) : Int := (l.map fun x => (x.1 : Int)).sum
def sA (l : List (Nat × Nat)) : Int := (l.map fun x => (x.1 : Int) * x.2).sum
def sB (l : List (Nat × Nat)) : Int := (l.map fun x => (x.1 : Int) * x.2 * x.2).sum
def sV (m : Int) (l : List (Nat × Nat)) : Int := (l.map fun x => (x.1 : Int) * ((x.2 : Int) - m) * ((x.2 : Int) - m)).sum
theorem sV_eq (m : Int) : ∀ l, sV m l = sB l + sW l * m * m - 2 * m * sA l
  | [] => by simp [sV, sB, sW, sA]
  | x :: l => by
    have := sV_eq m l
    simp only [sV, sB, sW, sA, List.map_cons, List.sum_cons] at this ⊢
    grind
theorem sq_nn (a : Int) : 0 ≤ a * a := by
  rcases Int.le_total 0 a with h | h
  · exact Int.mul_nonneg h h
  · exact Int.mul_nonneg_of_nonpos_of_nonpos h h
theorem sV_nn (m : Int) : ∀ l, 0 ≤ sV m l
  | [] => by simp [sV]
  | x :: l => by
    have h1 := sV_nn m l
    have h2 : 0 ≤ (x.1 : Int) * ((x.2 : Int) - m) * ((x.2 : Int) - m) := by
      rw [Int.mul_assoc]
      exact Int.mul_nonneg (by omega) (sq_nn _)
    simp only [sV, List.map_cons, List.sum_cons] at h1 ⊢
    omega
theorem sV_zero (m : Int) : ∀ l, sV m l = 0 ↔ ∀ x ∈ l, 0 < x.1 → (x.2 : Int) = m
  | [] => by simp [sV]
  | x :: l => by
    have h1 := sV_nn m l
    have h2 : 0 ≤ (x.1 : Int) * ((x.2 : Int) - m) * ((x.2 : Int) - m) := by
      rw [Int.mul_assoc]
      exact Int.mul_nonneg (by omega) (sq_nn _)
    have ih := sV_zero m l
    have e : sV m (x :: l) = (x.1 : Int) * ((x.2 : Int) - m) * ((x.2 : Int) - m) + sV m l := by simp [sV]
    rw [e]
    constructor
    · intro z y hy
      have z1 : (x.1 : Int) * ((x.2 : Int) - m) * ((x.2 : Int) - m) = 0 := by omega
      have z2 : sV m l = 0 := by omega
      rcases List.mem_cons.mp hy with rfl | hy
      · intro hp
        rw [Int.mul_assoc, Int.mul_eq_zero, Int.mul_eq_zero] at z1
        omega
      · exact ih.mp z2 y hy
    · intro z
      have z2 : sV m l = 0 := ih.mpr fun y hy => z y (List.mem_cons_of_mem _ hy)
      rw [z2]
      by_cases hp : 0 < x.1
      · rw [z x List.mem_cons_self hp]; simp
      · have : x.1 = 0 := by omega
        simp [this]
def dD (l : List (Nat × Nat)) : Int := sW l * sB l - sA l * sA l
theorem dD_cons (x : Nat × Nat) (l : List (Nat × Nat)) : dD (x :: l) = dD l + x.1 * sV x.2 l := by
  rw [sV_eq]
  simp only [dD, sW, sA, sB, List.map_cons, List.sum_cons]
  grind
theorem dD_nn : ∀ l, 0 ≤ dD l
  | [] => by simp [dD, sW, sA, sB]
  | x :: l => by
    rw [dD_cons]
    have := dD_nn l
    have := Int.mul_nonneg (show (0 : Int) ≤ x.1 by omega) (sV_nn x.2 l)
    omega
/-- at most one value that is weighed -/
def OneVal (l : List (Nat × Nat)) : Prop := ∀ x ∈ l, ∀ y ∈ l, 0 < x.1 → 0 < y.1 → x.2 = y.2
theorem dD_zero : ∀ l, dD l = 0 ↔ OneVal l
  | [] => by simp [dD, sW, sA, sB, OneVal]
  | x :: l => by
    have ih := dD_zero l
    have h1 := dD_nn l
    have h2 := Int.mul_nonneg (show (0 : Int) ≤ x.1 by omega) (sV_nn x.2 l)
    rw [dD_cons]
    constructor
    · intro z
      have z1 : dD l = 0 := by omega
      have z2 : (x.1 : Int) * sV x.2 l = 0 := by omega
      rw [Int.mul_eq_zero] at z2
      have o := ih.mp z1
      have key : 0 < x.1 → ∀ y ∈ l, 0 < y.1 → y.2 = x.2 := by
        intro hp y hy hy1
        rcases z2 with z2 | z2
        · omega
        · have := (sV_zero x.2 l).mp z2 y hy hy1
          omega
      intro a ha b hb pa pb
      rcases List.mem_cons.mp ha with ea | ha' <;> rcases List.mem_cons.mp hb with eb | hb'
      · rw [ea, eb]
      · rw [ea]; exact (key (ea ▸ pa) b hb' pb).symm
      · rw [eb]; exact key (eb ▸ pb) a ha' pa
      · exact o a ha' b hb' pa pb
    · intro o
      have z1 : dD l = 0 := ih.mpr fun a ha b hb => o a (List.mem_cons_of_mem _ ha) b (List.mem_cons_of_mem _ hb)
      rw [z1]
      by_cases hp : 0 < x.1
      · have : sV x.2 l = 0 := (sV_zero x.2 l).mpr fun y hy hy1 => by
          have := o y (List.mem_cons_of_mem _ hy) x List.mem_cons_self hy1 hp
          omega
        rw [this]; simp
      · have : x.1 = 0 := by omega
        simp [this]
end K74

set_option Elab.async false
set_option linter.all false
set_option maxRecDepth 100000
namespace K74
open PySem PySem.Spec L2 Mp
open PyProof.Rows hiding St mod_int startT pairsOf allFlat cutD
theorem in_world (neg : Bool) (r : Nat) (w : List Nat) (h : EH) : oIn neg h (nD r) (worldD w) = some (.pu (.bl (if neg = true then !(decide (r ∈ w)) else decide (r ∈ w)))) := by
  have e : D.okds 59 (w.map nD) = true := by
    rw [okds_all]
    intro d hd
    obtain ⟨x, _, rfl⟩ := List.mem_map.mp hd
    exact okd_int
  have e2 : ((D.pds (w.map nD)).any fun z => PyData.eqv z (nD r).pd) = decide (r ∈ w) := by
    rw [pds_eq, List.map_map, List.any_map, Bool.eq_iff_iff, List.any_eq_true, decide_eq_true_eq]
    constructor
    · rintro ⟨x, hx, q⟩
      have : ((x : Int) == (r : Int)) = true := by simpa [nD, D.pd, PyData.eqv] using q
      have := eq_of_beq this
      rw [show r = x by omega]
      exact hx
    · intro hx
      exact ⟨r, hx, by simp [nD, D.pd, PyData.eqv]⟩
  have e3 : D.okd 60 (nD r) = true := okd_int
  unfold oIn worldD
  simp only [der_tup, inB, e, e3, e2, Bool.and_self, if_true, Option.map_some]
structure Sm (P : List (Nat × Nat)) : Prop where
  le : ∀ x ∈ P, x.1 ≤ x.2
  d5 : ∀ x ∈ P, x.2 ≤ 5
noncomputable def rowB : SM := (mSeq (mSet 11 (mBin oMul (mPeek 11) (mIfE (mTst (mBin (oIn false) (mPeek 12) (mPeek 10))) (fm (mBin oIx (fm (mBin oIx (mPeek 3) (mPeek 12))) (mLit (.int 0)))) (fm (mBin oSub (fm (mBin oIx (fm (mBin oIx (mPeek 3) (mPeek 12))) (mLit (.int 1)))) (fm (mBin oIx (fm (mBin oIx (mPeek 3) (mPeek 12))) (mLit (.int 0)))))))))
    mNext)
theorem row_loop (P : List (Nat × Nat)) (hs : Sm P) (w : List Nat) (h : EH) (many : Nat) (hl : P.length = many) (x0 x1 x2 x4 x5 x6 x7 x8 x9 x12 x13 x14 x15 x16 x17 x18 x19 x20 x21 x22 x23 : Sl) :
    ∃ y12, forGo (fun _ => true) (.nm 12) rowB (rangeD 0 many) [x0, x1, x2, .pu (prodD P), x4, x5, x6, x7, x8, x9, .pu (worldD w), .pu (.int 1), x12, x13, x14, x15, x16, x17, x18, x19, x20, x21, x22, x23] h =
      .nx [x0, x1, x2, .pu (prodD P), x4, x5, x6, x7, x8, x9, .pu (worldD w), .pu (nD (wt P many w)), y12, x13, x14, x15, x16, x17, x18, x19, x20, x21, x22, x23] h := by
  have key := for_ix (chk := fun _ => true) (t := .nm 12) (b := rowB) (rangeD 0 many) (fun i τ h' => i ≤ many → h' = h ∧ ∃ y12, τ = [x0, x1, x2, .pu (prodD P), x4, x5, x6, x7, x8, x9, .pu (worldD w), .pu (nD (wt P i w)), y12, x13, x14, x15, x16, x17, x18, x19, x20, x21, x22, x23]) 0
    (τ := [x0, x1, x2, .pu (prodD P), x4, x5, x6, x7, x8, x9, .pu (worldD w), .pu (.int 1), x12, x13, x14, x15, x16, x17, x18, x19, x20, x21, x22, x23]) (h := h) (fun _ => ⟨rfl, _, rfl⟩) (fun _ _ _ _ => rfl) (by
      intro i hi τ h' q
      rw [rangeD_len] at hi
      obtain ⟨rfl, y12, rfl⟩ := q (by omega)
      rw [Nat.zero_add]
      have hr0 : i < P.length := by omega
      have hx : P[i]? = some P[i] := List.getElem?_eq_getElem hr0
      have hm : P[i] ∈ P := List.getElem_mem hr0
      have e1 : pn P i = P[i].1 := by unfold pn; rw [List.getD_eq_getElem?_getD, hx]; rfl
      have e2 : dn P i = P[i].2 := by unfold dn; rw [List.getD_eq_getElem?_getD, hx]; rfl
      have hle := hs.le _ hm
      have hd := hs.d5 _ hm
      have a1 : atI (P.map pairD) (i : Int) = some (pairD P[i]) := atI_map hx
      have iw := in_world false i w h'
      simp only [nD] at iw
      have sub : (P[i].2 : Int) - (P[i].1 : Int) = ((P[i].2 - P[i].1 : Nat) : Int) := by omega
      refine ⟨[x0, x1, x2, .pu (prodD P), x4, x5, x6, x7, x8, x9, .pu (worldD w), .pu (nD (wt P i w)), .pu (.int (i : Int)), x13, x14, x15, x16, x17, x18, x19, x20, x21, x22, x23], [x0, x1, x2, .pu (prodD P), x4, x5, x6, x7, x8, x9, .pu (worldD w), .pu (nD (wt P (i + 1) w)), .pu (.int (i : Int)), x13, x14, x15, x16, x17, x18, x19, x20, x21, x22, x23], h', by simp [rangeD_get], .inl ?_, fun _ => ⟨rfl, _, rfl⟩⟩
      by_cases c : i ∈ w
      · have k1 : ((P[i].1 : Nat) : Int).natAbs < 2 ^ 64 := by simp; omega
        simp [rowB, iw, c, prodD, a1, pairD, nD, mul_r k1, wt, e1]
      · have k1 : ((P[i].2 - P[i].1 : Nat) : Int).natAbs < 2 ^ 64 := by simp; omega
        simp [rowB, iw, c, prodD, a1, pairD, nD, sub, mul_r k1, wt, e1, e2])
  obtain ⟨τ', h', q, g⟩ := key
  rw [rangeD_len] at q
  obtain ⟨rfl, y12, rfl⟩ := q (by omega)
  exact ⟨y12, by simpa using g⟩
end K74

set_option Elab.async false
set_option linter.all false
set_option maxRecDepth 100000
namespace K74
open PySem PySem.Spec L2 Mp
open PyProof.Rows hiding St mod_int startT pairsOf allFlat cutD
theorem out_lc (A : List (Nat × Nat)) (w : List Nat) (x0 x1 x2 x3 x4 x5 x6 x7 x8 x9 x11 x12 x13 x14 x15 x16 x17 x18 x19 x20 x21 x22 x23 : Sl) (h : EH) (chk : EH → Bool) (hc : chk h = true) :
    lcGo chk (lcB (.tp (.cons (.nm 12) (.cons (.nm 21) .nil))) [x0, x1, x2, x3, x4, x5, x6, x7, x8, x9, .pu (worldD w), x11, x12, x13, x14, x15, x16, x17, x18, x19, x20, x21, x22, x23] (mTst (mBin (oIn true) (mPeek 12) (mPeek 10))) (mVar 12)) (A.map pairD) h = .ok (((rowsOf A).filter fun r => !decide (r ∈ w)).map nD) h := by
  rw [lc_map hc (f := fun d => match d with
    | .tup [.int x, _] => if x.toNat ∈ w then [] else [.int x]
    | _ => [])]
  · congr 1
    induction A with
    | nil => rfl
    | cons a A ih =>
      by_cases c : a.1 ∈ w <;> simp [pairD, rowsOf, c, nD] at ih ⊢ <;> exact ih
  · intro d hd
    obtain ⟨y, _, rfl⟩ := List.mem_map.mp hd
    have iw := in_world true y.1 w h
    simp only [nD, if_true] at iw
    by_cases c : y.1 ∈ w <;> simp [lcB, pairD, iw, c]
theorem eqv_nil (ds : List D) (hd : ∀ d ∈ ds, ∃ n, d = nD n) (h : EH) : oEq h (.lst ds) (.lst []) = some (.pu (.bl ds.isEmpty)) := by
  have e : D.okd 60 (.lst ds) = true := by
    rw [D.okd, okds_all]
    intro d q
    obtain ⟨n, rfl⟩ := hd d q
    exact okd_int
  have e2 : D.okd 60 (.lst []) = true := rfl
  unfold oEq
  rw [e, e2]
  cases ds with
  | nil => rfl
  | cons a r => rfl
theorem has_filter (w rows : List Nat) : ((rows.filter fun r => !decide (r ∈ w)).map nD).isEmpty = has w rows := by
  induction rows with
  | nil => rfl
  | cons r rs ih =>
    unfold has at ih ⊢
    by_cases c : r ∈ w
    · simp [c] at ih ⊢; exact ih
    · simp [c]
noncomputable def mtM : FM := (mCall gSum (mCons (fm (mLc (mWalk (mPeek 2)) (.tp (.cons (.nm 19) (.cons (.nm 20) .nil))) [19, 20] (mTst (mBin oEq (fm (mLc (mWalk (mPeek 19)) (.tp (.cons (.nm 12) (.cons (.nm 21) .nil))) [12, 21] (mTst (mBin (oIn true) (mPeek 12) (mPeek 10))) (mVar 12))) (fm (mLst mNil)))) (mVar 20))) mNil))
theorem ints_sum (ns : List Nat) : intsOf (ns.map nD) = some (ns.map fun (n : Nat) => (n : Int)) := by
  induction ns with
  | nil => rfl
  | cons n ns ih => simp [intsOf, nD] at ih ⊢; simp [intsOf, ih]
theorem sum_cast (ns : List Nat) : (ns.map fun (n : Nat) => (n : Int)).sum = ((ns.sum : Nat) : Int) := by
  induction ns with
  | nil => rfl
  | cons n ns ih => simp [ih]
theorem mt_filter (S : List (List (Nat × Nat) × Nat)) (w : List Nat) : ((S.filter fun x => has w (rowsOf x.1)).map (·.2)).sum = mt S w := by
  induction S with
  | nil => rfl
  | cons x S ih =>
    rw [mt_cons, ← ih]
    cases c : has w (rowsOf x.1) <;> simp [c]
theorem mt_eq (S : List (List (Nat × Nat) × Nat)) (w : List Nat) (hS : S.length ≤ 40) (hA : ∀ x ∈ S, x.1.length ≤ 40) (h : EH) (x0 x1 x3 x4 x5 x6 x7 x8 x9 x11 x12 x13 x14 x15 x16 x17 x18 x19 x20 x21 x22 x23 : Sl) :
    mtM [x0, x1, .pu (sumD S), x3, x4, x5, x6, x7, x8, x9, .pu (worldD w), x11, x12, x13, x14, x15, x16, x17, x18, x19, x20, x21, x22, x23] h = .ok (.pu (nD (mt S w))) h := by
  have key : lcGo (isAs (sumD S) (sumD S)) (lcB (.tp (.cons (.nm 19) (.cons (.nm 20) .nil))) [x0, x1, .pu (sumD S), x3, x4, x5, x6, x7, x8, x9, .pu (worldD w), x11, x12, x13, x14, x15, x16, x17, x18, .em, .em, x21, x22, x23]
      (mTst (mBin oEq (fm (mLc (mWalk (mPeek 19)) (.tp (.cons (.nm 12) (.cons (.nm 21) .nil))) [12, 21] (mTst (mBin (oIn true) (mPeek 12) (mPeek 10))) (mVar 12))) (fm (mLst mNil)))) (mVar 20)) (S.map itemD) h =
      .ok (((S.filter fun x => has w (rowsOf x.1)).map (·.2)).map nD) h := by
    rw [lc_map (by simp [sumD]) (f := fun d => match d with
      | .tup [p, n] => if has w (rowsOf (unProd p)) = true then [n] else []
      | _ => [])]
    · congr 1
      clear hS hA
      induction S with
      | nil => rfl
      | cons a A ih =>
        cases c : has w (rowsOf a.1) <;> simp [itemD, unProd_eq, c, nD] at ih ⊢ <;> exact ih
    · intro d hd
      obtain ⟨x, hx, rfl⟩ := List.mem_map.mp hd
      have o := out_lc x.1 w x0 x1 (.pu (sumD S)) x3 x4 x5 x6 x7 x8 x9 x11 .em x13 x14 x15 x16 x17 x18 (.pu (prodD x.1)) (.pu (nD x.2)) .em x22 x23 h (isAs (prodD x.1) (prodD x.1)) (by simp [prodD])
      have hl : (((rowsOf x.1).filter fun r => !decide (r ∈ w)).map nD).length ≤ L := by
        rw [List.length_map]
        refine Nat.le_trans (List.length_filter_le _ _) ?_
        rw [rowsOf, List.length_map]
        exact Nat.le_trans (hA x hx) (by decide)
      have en := eqv_nil (((rowsOf x.1).filter fun r => !decide (r ∈ w)).map nD) (by
        intro d q
        obtain ⟨n, _, rfl⟩ := List.mem_map.mp q
        exact ⟨n, rfl⟩) h
      rw [has_filter] at en
      generalize (((rowsOf x.1).filter fun r => !decide (r ∈ w)).map nD) = zs at hl en o
      simp only [prodD, nD] at o
      cases c : has w (rowsOf x.1) <;> rw [c] at en <;> simp [lcB, itemD, nD, prodD, wipeT, o, lcEnd_ok hl, en, c]
      all_goals rw [show D.tup (List.map pairD x.1) = prodD x.1 from rfl, unProd_eq]; exact c
  have hl : (((S.filter fun x => has w (rowsOf x.1)).map (·.2)).map nD).length ≤ L := by
    rw [List.length_map, List.length_map]
    refine Nat.le_trans (List.length_filter_le _ _) ?_
    exact Nat.le_trans hS (by decide)
  have es : gSum h [.lst (((S.filter fun x => has w (rowsOf x.1)).map (·.2)).map nD)] = some (.pu (nD (mt S w))) := by
    simp only [gSum, der_lst, ints_sum, Option.map_some, sum_cast, mt_filter, nD]
  generalize (((S.filter fun x => has w (rowsOf x.1)).map (·.2)).map nD) = zs at key hl es
  simp only [sumD] at key
  simp only [mtM]
  simp [sumD, wipeT, key, lcEnd_ok hl, es]
end K74

set_option Elab.async false
set_option linter.all false
set_option maxRecDepth 100000
namespace K74
open PySem PySem.Spec L2 Mp
open PyProof.Rows hiding St mod_int startT pairsOf allFlat cutD
def nums (P : List (Nat × Nat)) (k : Nat) (S : List (List (Nat × Nat) × Nat)) (ws : List (List Nat)) : List (Nat × Nat) := ws.foldl (fun N w => if 0 < wt P k w then aput N (mt S w) 1 else N) []
theorem nums_snoc (P : List (Nat × Nat)) (k : Nat) (S : List (List (Nat × Nat) × Nat)) (ws : List (List Nat)) (w : List Nat) : nums P k S (ws ++ [w]) = if 0 < wt P k w then aput (nums P k S ws) (mt S w) 1 else nums P k S ws := by simp [nums]
theorem nums_len (P : List (Nat × Nat)) (k : Nat) (S : List (List (Nat × Nat) × Nat)) (ws : List (List Nat)) : (nums P k S ws).length ≤ ws.length := by
  suffices h : ∀ (ws : List (List Nat)) (N : List (Nat × Nat)), (ws.foldl (fun N w => if 0 < wt P k w then aput N (mt S w) 1 else N) N).length ≤ N.length + ws.length by
    have := h ws []
    simpa [nums] using this
  intro ws
  induction ws with
  | nil => intro N; simp
  | cons w ws ih =>
    intro N
    rw [List.foldl_cons]
    refine Nat.le_trans (ih _) ?_
    split
    · have := aput_len (A := N) (k := mt S w) (v := 1)
      simp only [List.length_cons]; omega
    · simp only [List.length_cons]; omega
noncomputable def wB : SM := (mSeq (mSet 11 (pm (mLit (.int 1))))
    (mSeq (mFor (mRng rngB1 (mCons (mPeek 1) mNil)) (.nm 12) rowB)
    (mSeq (mSet 13 mtM)
    (mSeq (mSet 6 (mBin oAdd (mPeek 6) (fm (mBin oMul (mPeek 11) (mPeek 13)))))
    (mSeq (mSet 7 (mBin oAdd (mPeek 7) (fm (mBin oMul (fm (mBin oMul (mPeek 11) (mPeek 13))) (mPeek 13)))))
    (mSeq (mSet 8 (mBin oAdd (mPeek 8) (mIfE (mTst (mBin oGt (mPeek 13) (mLit (.int 0)))) (mVar 11) (mLit (.int 0)))))
    (mSeq (mIf (mTst (mBin oGt (mPeek 11) (mLit (.int 0))))
      (mSeq (mSubV 9 (mPeek 13) (mLit (.int 1)))
    mNext)
      mNext)
    mNext)))))))
def stnd (P : List (Nat × Nat)) (k : Nat) (S : List (List (Nat × Nat) × Nat)) (w : List Nat) : Nat := if 0 < mt S w then wt P k w else 0
theorem sumW_snoc (f : List Nat → Nat) (ws : List (List Nat)) (w : List Nat) : sumW f (ws ++ [w]) = sumW f ws + f w := by simp [sumW]
theorem sumW_nil (f : List Nat → Nat) : sumW f [] = 0 := rfl
variable {S : List (List (Nat × Nat) × Nat)} {P : List (Nat × Nat)} {many : Nat}
theorem wB_eq (hs : Sm P) (hl : P.length = many) (hm : many ≤ 6) (hS : S.length ≤ 40) (hA : ∀ x ∈ S, x.1.length ≤ 40) (w : List Nat) (hmt : mt S w < 2 ^ 60) (f s t : Nat) (N : List (Nat × Nat)) (hN : N.length < 100) (h : EH)
    (x0 x4 x5 x11 x12 x13 x14 x15 x16 x17 x18 x19 x20 x21 x22 x23 : Sl) : ∃ y12,
    wB [x0, .pu (nD many), .pu (sumD S), .pu (prodD P), x4, x5, .pu (nD f), .pu (nD s), .pu (nD t), .ow (.dct (pk N)), .pu (worldD w), x11, x12, x13, x14, x15, x16, x17, x18, x19, x20, x21, x22, x23] h =
      .nx [x0, .pu (nD many), .pu (sumD S), .pu (prodD P), x4, x5, .pu (nD (f + wt P many w * mt S w)), .pu (nD (s + wt P many w * mt S w * mt S w)), .pu (nD (t + stnd P many S w)), .ow (.dct (pk (if 0 < wt P many w then aput N (mt S w) 1 else N))), .pu (worldD w), .pu (nD (wt P many w)), y12, .pu (nD (mt S w)), x14, x15, x16, x17, x18, x19, x20, x21, x22, x23] h := by
  obtain ⟨y12, rl⟩ := row_loop P hs w h many hl x0 (.pu (nD many)) (.pu (sumD S)) x4 x5 (.pu (nD f)) (.pu (nD s)) (.pu (nD t)) (.ow (.dct (pk N))) x12 x13 x14 x15 x16 x17 x18 x19 x20 x21 x22 x23
  have me := mt_eq S w hS hA h x0 (.pu (nD many)) (.pu (prodD P)) x4 x5 (.pu (nD f)) (.pu (nD s)) (.pu (nD t)) (.ow (.dct (pk N))) (.pu (nD (wt P many w))) y12 x13 x14 x15 x16 x17 x18 x19 x20 x21 x22 x23
  refine ⟨y12, ?_⟩
  have r1 := rng1 (k := many) (by omega)
  have k1 : ((mt S w : Nat) : Int).natAbs < 2 ^ 64 := by simp; omega
  have pp := put_pk N (mt S w) 1 (Nat.lt_trans hN (by decide))
  simp only [nD] at me rl pp ⊢
  by_cases c : 0 < wt P many w
  · by_cases c2 : 0 < mt S w
    · simp -implicitDefEqProofs [wB, r1, rl, me, mul_r k1, c, c2, mSubV, isBox, wrV, stnd] at pp ⊢
      rw [pp]; simp
    · simp -implicitDefEqProofs [wB, r1, rl, me, mul_r k1, c, c2, mSubV, isBox, wrV, stnd] at pp ⊢
      rw [pp]; simp
  · by_cases c2 : 0 < mt S w
    · simp -implicitDefEqProofs [wB, r1, rl, me, mul_r k1, c, c2, stnd]
    · simp -implicitDefEqProofs [wB, r1, rl, me, mul_r k1, c, c2, stnd]
end K74

set_option Elab.async false
set_option linter.all false
set_option maxRecDepth 100000
namespace K74
open PySem PySem.Spec L2 Mp
open PyProof.Rows hiding St mod_int startT pairsOf allFlat cutD
variable {S : List (List (Nat × Nat) × Nat)} {P : List (Nat × Nat)} {many : Nat}
theorem world_loop (hs : Sm P) (hl : P.length = many) (hm : many ≤ 6) (hS : S.length ≤ 40) (hA : ∀ x ∈ S, x.1.length ≤ 40) (hmt : ∀ w, mt S w < 2 ^ 60) (h : EH) (chk : EH → Bool) (hc : chk h = true)
    (x0 x4 x5 x10 x11 x12 x13 x14 x15 x16 x17 x18 x19 x20 x21 x22 x23 : Sl) : ∃ y10 y11 y12 y13,
    forGo chk (.nm 10) wB ((allW many).map worldD) [x0, .pu (nD many), .pu (sumD S), .pu (prodD P), x4, x5, .pu (nD 0), .pu (nD 0), .pu (nD 0), .ow (.dct []), x10, x11, x12, x13, x14, x15, x16, x17, x18, x19, x20, x21, x22, x23] h =
      .nx [x0, .pu (nD many), .pu (sumD S), .pu (prodD P), x4, x5, .pu (nD (first P many S)), .pu (nD (second P many S S)), .pu (nD (sumW (stnd P many S) (allW many))), .ow (.dct (pk (nums P many S (allW many)))), y10, y11, y12, y13, x14, x15, x16, x17, x18, x19, x20, x21, x22, x23] h := by
  have key := forGo_list (f := worldD) (t := .nm 10) (b := wB) (h := h) hc
    (fun rest τ => ∃ ws y10 y11 y12 y13, allW many = ws ++ rest ∧ τ = [x0, .pu (nD many), .pu (sumD S), .pu (prodD P), x4, x5, .pu (nD (sumW (fun w => wt P many w * mt S w) ws)), .pu (nD (sumW (fun w => wt P many w * mt S w * mt S w) ws)), .pu (nD (sumW (stnd P many S) ws)), .ow (.dct (pk (nums P many S ws))), y10, y11, y12, y13, x14, x15, x16, x17, x18, x19, x20, x21, x22, x23])
    (allW many) (τ := [x0, .pu (nD many), .pu (sumD S), .pu (prodD P), x4, x5, .pu (nD 0), .pu (nD 0), .pu (nD 0), .ow (.dct []), x10, x11, x12, x13, x14, x15, x16, x17, x18, x19, x20, x21, x22, x23]) ⟨[], _, _, _, _, rfl, rfl⟩ (by
      rintro w rest τ ⟨ws, y10, y11, y12, y13, ew, rfl⟩
      have hlen : ws.length < 100 := by
        have e := congrArg List.length ew
        rw [allW_len, List.length_append] at e
        have p6 : 2 ^ many ≤ 2 ^ 6 := Nat.pow_le_pow_right (by decide) hm
        rw [show 2 ^ 6 = 64 from rfl] at p6
        omega
      obtain ⟨z12, e⟩ := wB_eq hs hl hm hS hA w (hmt w) (sumW (fun w => wt P many w * mt S w) ws) (sumW (fun w => wt P many w * mt S w * mt S w) ws) (sumW (stnd P many S) ws) (nums P many S ws) (Nat.lt_of_le_of_lt (nums_len P many S ws) hlen) h x0 x4 x5 y11 y12 y13 x14 x15 x16 x17 x18 x19 x20 x21 x22 x23
      refine ⟨[x0, .pu (nD many), .pu (sumD S), .pu (prodD P), x4, x5, .pu (nD (sumW (fun w => wt P many w * mt S w) ws)), .pu (nD (sumW (fun w => wt P many w * mt S w * mt S w) ws)), .pu (nD (sumW (stnd P many S) ws)), .ow (.dct (pk (nums P many S ws))), .pu (worldD w), y11, y12, y13, x14, x15, x16, x17, x18, x19, x20, x21, x22, x23], _, by simp, e, ws ++ [w], .pu (worldD w), .pu (nD (wt P many w)), z12, .pu (nD (mt S w)), by rw [ew]; simp, ?_⟩
      rw [sumW_snoc, sumW_snoc, sumW_snoc, nums_snoc])
  obtain ⟨τ', ⟨ws, y10, y11, y12, y13, ew, rfl⟩, g⟩ := key
  rw [List.append_nil] at ew
  subst ew
  exact ⟨y10, y11, y12, y13, g⟩
end K74

set_option Elab.async false
set_option linter.all false
set_option maxRecDepth 100000
namespace K74
open PySem PySem.Spec L2 Mp
open PyProof.Rows hiding St mod_int startT pairsOf allFlat cutD
variable {S : List (List (Nat × Nat) × Nat)} {P : List (Nat × Nat)} {many : Nat}
theorem nums_mem (P : List (Nat × Nat)) (k : Nat) (S : List (List (Nat × Nat) × Nat)) (m : Nat) (ws : List (List Nat)) : m ∈ (nums P k S ws).map (·.1) ↔ ∃ w ∈ ws, 0 < wt P k w ∧ mt S w = m := by
  suffices h : ∀ (ws : List (List Nat)) (N : List (Nat × Nat)), m ∈ (ws.foldl (fun N w => if 0 < wt P k w then aput N (mt S w) 1 else N) N).map (·.1) ↔ m ∈ N.map (·.1) ∨ ∃ w ∈ ws, 0 < wt P k w ∧ mt S w = m by
    have := h ws []
    simpa [nums] using this
  intro ws
  induction ws with
  | nil => intro N; simp
  | cons w ws ih =>
    intro N
    rw [List.foldl_cons, ih]
    by_cases c : 0 < wt P k w
    · rw [if_pos c, aput_mem]
      constructor
      · rintro ((e | e) | ⟨v, hv, q⟩)
        · exact .inr ⟨w, List.mem_cons_self, c, e.symm⟩
        · exact .inl e
        · exact .inr ⟨v, List.mem_cons_of_mem _ hv, q⟩
      · rintro (e | ⟨v, hv, q⟩)
        · exact .inl (.inr e)
        · rcases List.mem_cons.mp hv with rfl | hv
          · exact .inl (.inl q.2.symm)
          · exact .inr ⟨v, hv, q⟩
    · rw [if_neg c]
      constructor
      · rintro (e | ⟨v, hv, q⟩)
        · exact .inl e
        · exact .inr ⟨v, List.mem_cons_of_mem _ hv, q⟩
      · rintro (e | ⟨v, hv, q⟩)
        · exact .inl e
        · rcases List.mem_cons.mp hv with rfl | hv
          · exact absurd q.1 c
          · exact .inr ⟨v, hv, q⟩
theorem nums_nodup (P : List (Nat × Nat)) (k : Nat) (S : List (List (Nat × Nat) × Nat)) (ws : List (List Nat)) : ((nums P k S ws).map (·.1)).Nodup := by
  suffices h : ∀ (ws : List (List Nat)) (N : List (Nat × Nat)), (N.map (·.1)).Nodup → ((ws.foldl (fun N w => if 0 < wt P k w then aput N (mt S w) 1 else N) N).map (·.1)).Nodup from h ws [] (by simp)
  intro ws
  induction ws with
  | nil => intro N h; exact h
  | cons w ws ih =>
    intro N h
    rw [List.foldl_cons]
    apply ih
    split
    · exact aput_nodup h
    · exact h
/-- a list without repeats has fewer than two members just if all are one -/
theorem short_iff {l : List Nat} (h : l.Nodup) : l.length < 2 ↔ ∀ a ∈ l, ∀ b ∈ l, a = b := by
  match l, h with
  | [], _ => simp
  | [x], _ => simp
  | x :: y :: r, h =>
    constructor
    · intro q; simp at q; omega
    · intro q
      have e := q x (by simp) y (by simp)
      rw [e] at h
      exact absurd h (by simp)
def wl (P : List (Nat × Nat)) (k : Nat) (S : List (List (Nat × Nat) × Nat)) : List (Nat × Nat) := (allW k).map fun w => (wt P k w, mt S w)
theorem keys_one : ((nums P many S (allW many)).map (·.1)).length < 2 ↔ OneVal (wl P many S) := by
  rw [short_iff (nums_nodup _ _ _ _)]
  unfold OneVal wl
  constructor
  · intro q x hx y hy px py
    obtain ⟨v, hv, rfl⟩ := List.mem_map.mp hx
    obtain ⟨u, hu, rfl⟩ := List.mem_map.mp hy
    exact q _ ((nums_mem _ _ _ _ _).mpr ⟨v, hv, px, rfl⟩) _ ((nums_mem _ _ _ _ _).mpr ⟨u, hu, py, rfl⟩)
  · intro q a ha b hb
    obtain ⟨v, hv, pv, rfl⟩ := (nums_mem _ _ _ _ _).mp ha
    obtain ⟨u, hu, pu, rfl⟩ := (nums_mem _ _ _ _ _).mp hb
    exact q _ (List.mem_map_of_mem hv) _ (List.mem_map_of_mem hu) pv pu
theorem pos_one : (((nums P many S (allW many)).map (·.1)).filter fun n => decide (0 < n)).length < 2 ↔ OneVal ((wl P many S).filter fun x => decide (0 < x.2)) := by
  rw [short_iff ((nums_nodup _ _ _ _).filter _)]
  unfold OneVal wl
  constructor
  · intro q x hx y hy px py
    rw [List.mem_filter] at hx hy
    obtain ⟨v, hv, rfl⟩ := List.mem_map.mp hx.1
    obtain ⟨u, hu, rfl⟩ := List.mem_map.mp hy.1
    exact q _ (List.mem_filter.mpr ⟨(nums_mem _ _ _ _ _).mpr ⟨v, hv, px, rfl⟩, hx.2⟩) _ (List.mem_filter.mpr ⟨(nums_mem _ _ _ _ _).mpr ⟨u, hu, py, rfl⟩, hy.2⟩)
  · intro q a ha b hb
    rw [List.mem_filter] at ha hb
    obtain ⟨v, hv, pv, rfl⟩ := (nums_mem _ _ _ _ _).mp ha.1
    obtain ⟨u, hu, pu, rfl⟩ := (nums_mem _ _ _ _ _).mp hb.1
    exact q _ (List.mem_filter.mpr ⟨List.mem_map_of_mem hv, ha.2⟩) _ (List.mem_filter.mpr ⟨List.mem_map_of_mem hu, hb.2⟩) pv pu
theorem wl_A (ws : List (List Nat)) : sA (ws.map fun w => (wt P many w, mt S w)) = ((sumW (fun w => wt P many w * mt S w) ws : Nat) : Int) := by
  unfold sA sumW
  induction ws with
  | nil => rfl
  | cons w ws ih => simp at ih ⊢; rw [ih]
theorem wl_B (ws : List (List Nat)) : sB (ws.map fun w => (wt P many w, mt S w)) = ((sumW (fun w => wt P many w * mt S w * mt S w) ws : Nat) : Int) := by
  unfold sB sumW
  induction ws with
  | nil => rfl
  | cons w ws ih => simp at ih ⊢; rw [ih]
theorem wl_W (ws : List (List Nat)) : sW (ws.map fun w => (wt P many w, mt S w)) = ((sumW (fun w => wt P many w) ws : Nat) : Int) := by
  unfold sW sumW
  induction ws with
  | nil => rfl
  | cons w ws ih => simp at ih ⊢; rw [ih]
theorem pos_W (ws : List (List Nat)) : sW ((ws.map fun w => (wt P many w, mt S w)).filter fun x => decide (0 < x.2)) = ((sumW (stnd P many S) ws : Nat) : Int) := by
  unfold sW sumW
  induction ws with
  | nil => rfl
  | cons w ws ih =>
    by_cases c : 0 < mt S w
    · simp [stnd, c] at ih ⊢; rw [ih]
    · simp [stnd, c] at ih ⊢; rw [ih]
theorem pos_A (ws : List (List Nat)) : sA ((ws.map fun w => (wt P many w, mt S w)).filter fun x => decide (0 < x.2)) = ((sumW (fun w => wt P many w * mt S w) ws : Nat) : Int) := by
  unfold sA sumW
  induction ws with
  | nil => rfl
  | cons w ws ih =>
    by_cases c : 0 < mt S w
    · simp [c] at ih ⊢; rw [ih]
    · have : mt S w = 0 := by omega
      simp [this] at ih ⊢; rw [ih]
theorem pos_B (ws : List (List Nat)) : sB ((ws.map fun w => (wt P many w, mt S w)).filter fun x => decide (0 < x.2)) = ((sumW (fun w => wt P many w * mt S w * mt S w) ws : Nat) : Int) := by
  unfold sB sumW
  induction ws with
  | nil => rfl
  | cons w ws ih =>
    by_cases c : 0 < mt S w
    · simp [c] at ih ⊢; rw [ih]
    · have : mt S w = 0 := by omega
      simp [this] at ih ⊢; rw [ih]
end K74

set_option Elab.async false
set_option linter.all false
set_option maxRecDepth 100000
namespace K74
open PySem PySem.Spec L2 Mp
open PyProof.Rows hiding St mod_int startT pairsOf allFlat cutD
variable {S : List (List (Nat × Nat) × Nat)} {P : List (Nat × Nat)} {many : Nat}
theorem sumW_le {f g : List Nat → Nat} {ws : List (List Nat)} (h : ∀ w ∈ ws, f w ≤ g w) : sumW f ws ≤ sumW g ws := by
  unfold sumW
  induction ws with
  | nil => simp
  | cons w ws ih =>
    have := h w List.mem_cons_self
    have := ih fun v hv => h v (List.mem_cons_of_mem _ hv)
    simp only [List.map_cons, List.sum_cons]
    omega
theorem Q_sum (hW : WOk P many) : sumW (fun w => wt P many w) (allW many) = Qn P many := by
  have := cov_eq P hW.le many [] (by simp) (by simp)
  rw [show dOf P [] = 1 from rfl, show pOf P [] = 1 from rfl, Nat.mul_one, Nat.one_mul] at this
  rw [← this]
  unfold cov
  exact sumW_congr fun w _ => by simp [has]
structure Facts (P : List (Nat × Nat)) (many : Nat) (S : List (List (Nat × Nat) × Nat)) : Prop where
  fq : first P many S * first P many S ≤ Qn P many * second P many S S
  fq0 : first P many S * first P many S = Qn P many * second P many S S ↔ ((nums P many S (allW many)).map (·.1)).length < 2
  ft : first P many S * first P many S ≤ sumW (stnd P many S) (allW many) * second P many S S
  ft0 : first P many S * first P many S = sumW (stnd P many S) (allW many) * second P many S S ↔ (((nums P many S (allW many)).map (·.1)).filter fun n => decide (0 < n)).length < 2
  tf : sumW (stnd P many S) (allW many) ≤ first P many S
  tq : sumW (stnd P many S) (allW many) ≤ Qn P many
  kp : 0 < ((nums P many S (allW many)).map (·.1)).length
theorem facts (hW : WOk P many) (hQ : Qn P many ≠ 0) : Facts P many S := by
  have d1 := dD_nn (wl P many S)
  have z1 := dD_zero (wl P many S)
  have d2 := dD_nn ((wl P many S).filter fun x => decide (0 < x.2))
  have z2 := dD_zero ((wl P many S).filter fun x => decide (0 < x.2))
  rw [← keys_one] at z1
  rw [← pos_one] at z2
  unfold dD wl at d1 z1 d2 z2
  rw [wl_A, wl_B, wl_W, Q_sum hW] at d1 z1
  rw [pos_A, pos_B, pos_W] at d2 z2
  rw [← Int.natCast_mul, ← Int.natCast_mul] at d1 z1 d2 z2
  refine ⟨?_, ?_, ?_, ?_, ?_, ?_, ?_⟩
  · show sumW _ _ * sumW _ _ ≤ _ * sumW _ _
    omega
  · rw [← z1]
    show sumW _ _ * sumW _ _ = _ * sumW _ _ ↔ _
    constructor <;> intro q <;> omega
  · show sumW _ _ * sumW _ _ ≤ _ * sumW _ _
    omega
  · rw [← z2]
    show sumW _ _ * sumW _ _ = _ * sumW _ _ ↔ _
    constructor <;> intro q <;> omega
  · refine sumW_le fun w _ => ?_
    unfold stnd
    split
    · rename_i c
      exact Nat.le_mul_of_pos_right _ c
    · exact Nat.zero_le _
  · rw [← Q_sum hW]
    refine sumW_le fun w _ => ?_
    unfold stnd
    split
    · exact Nat.le_refl _
    · exact Nat.zero_le _
  · refine Nat.pos_of_ne_zero fun z => hQ ?_
    rw [← Q_sum hW, sumW_congr (g := fun _ => 0), sumW_zero]
    intro w hw
    refine Nat.eq_zero_of_not_pos fun p => ?_
    have := (nums_mem P many S (mt S w) (allW many)).mpr ⟨w, hw, p, rfl⟩
    rw [List.eq_nil_of_length_eq_zero z] at this
    exact absurd this (by simp)
/-! ### what was drawn is in order -/
structure Parts (P : List (Nat × Nat)) : Prop where
  six : ∀ x ∈ P, x ∈ six
  len : P.length ≤ 6
theorem six_ok : ∀ x ∈ six, x.1 ≤ x.2 ∧ x.2 ≠ 0 ∧ x.2 ≤ 5 ∧ Nat.gcd x.1 x.2 = 1 := by decide
theorem Parts.pd {P : List (Nat × Nat)} (h : Parts P) (r : Nat) : pn P r ≤ dn P r ∧ dn P r ≠ 0 ∧ dn P r ≤ 5 := by
  unfold pn dn
  rw [List.getD_eq_getElem?_getD]
  cases e : P[r]? with
  | none => simp
  | some x =>
    have := six_ok x (h.six x (List.mem_of_getElem? e))
    exact ⟨this.1, this.2.1, this.2.2.1⟩
theorem Parts.chk {P : List (Nat × Nat)} (h : Parts P) : Chk P := { pos := fun x hx => (six_ok x (h.six x hx)).2.1, le := fun x hx => (six_ok x (h.six x hx)).1, sm := fun x hx => by have := (six_ok x (h.six x hx)).2.2.1; omega, low := fun x hx => (six_ok x (h.six x hx)).2.2.2, len := by have := h.len; omega }
theorem Parts.wok {P : List (Nat × Nat)} (h : Parts P) : WOk P many := ⟨fun r => (h.pd r).1, fun rows => dOf_pos h.chk.toPOk rows⟩
theorem Parts.q0 {P : List (Nat × Nat)} (h : Parts P) : ∀ k, Qn P k ≠ 0
  | 0 => by simp [Qn]
  | k + 1 => Nat.mul_ne_zero (h.q0 k) (h.pd k).2.1
theorem Parts.ql {P : List (Nat × Nat)} (h : Parts P) : ∀ k, Qn P k ≤ 5 ^ k
  | 0 => by simp [Qn]
  | k + 1 => by
    rw [Qn, Nat.pow_succ]
    exact Nat.mul_le_mul (h.ql k) (h.pd k).2.2
theorem Parts.dl {P : List (Nat × Nat)} (h : Parts P) : ∀ rows, dOf P rows ≤ 5 ^ rows.length
  | [] => by simp [dOf]
  | r :: rows => by
    have := h.dl rows
    have h2 := (h.pd r).2.2
    rw [List.length_cons, Nat.pow_succ, Nat.mul_comm]
    unfold dOf at this ⊢
    rw [List.map_cons, List.prod_cons]
    exact Nat.mul_le_mul h2 this
theorem num_le {a : Rat} {Q N : Nat} (hQ : Q ≠ 0) (e : a * (Q : Rat) = (N : Rat)) : a.num ≤ (N : Int) := by
  have e2 : a = (N : Rat) / (Q : Rat) := by have := natQ hQ; grind
  have e3 : a = Rat.normalize (N : Int) Q hQ := by
    rw [Rat.normalize_eq_mkRat, Rat.mkRat_eq_div, e2]; rfl
  rw [e3, Rat.num_normalize]
  refine Int.ediv_le_self _ (by omega)
theorem mt_le {S : List (List (Nat × Nat) × Nat)} (h : ∀ x ∈ S, x.2 ≤ 3) (w : List Nat) : mt S w ≤ 3 * S.length := by
  induction S with
  | nil => simp [mt]
  | cons x S ih =>
    have := ih fun y hy => h y (List.mem_cons_of_mem _ hy)
    have := h x List.mem_cons_self
    rw [mt_cons, List.length_cons]
    split <;> omega
end K74

set_option Elab.async false
set_option linter.all false
set_option maxRecDepth 100000
namespace K74
open PySem PySem.Spec L2 Mp
open PyProof.Rows hiding St mod_int startT pairsOf allFlat cutD
variable {S : List (List (Nat × Nat) × Nat)} {P : List (Nat × Nat)} {many : Nat}
theorem Drawn.rows (d : Drawn many S) : RowsOk many S := fun x hx => by
  obtain ⟨p, _, a, _, _⟩ := d.pr x hx
  refine ⟨a.imp fun q => by omega, fun r hr => ?_⟩
  obtain ⟨e, he, rfl⟩ := List.mem_map.mp hr
  exact p.row e he
theorem Drawn.val (d : Drawn many S) (hm : many ≤ 6) : Val S many := { m40 := by omega, len := by have := d.len; omega, cnt := fun x hx => (d.pr x hx).2.2.2.1, tim := fun x hx => (d.pr x hx).1.tim, row := fun x hx => (d.rows x hx).2, asc := fun x hx => (d.pr x hx).2.2.1, al := fun x hx => by have := (d.pr x hx).2.1; omega, key := d.key }
theorem sok (hP : Parts P) (hl : P.length = many) (rows : List Nat) (hn : rows.Nodup) (hr : ∀ r ∈ rows, r < many) (h7 : rows.length ≤ 6) : SOk P (Qn P many) rows := by
  refine ⟨fun r q => by have := hr r q; omega, ?_, ⟨_, (cov_rat (k := many) (hP.wok (many := many)).le ((hP.wok (many := many)).nz rows) hn hr).symm⟩⟩
  have := hP.dl rows
  have : 5 ^ rows.length ≤ 5 ^ 6 := Nat.pow_le_pow_right (by decide) h7
  omega
theorem un_len (A B : List (Nat × Nat)) : (un A B).length ≤ A.length + B.length := by
  have := aputs_len (A ++ B) []
  simpa [un, rowsOf] using this
theorem good (d : Drawn many S) (hP : Parts P) (hl : P.length = many) : Good2 S P (Qn P many) := by
  have hm : many ≤ 6 := by have := hP.len; omega
  have hQ0 := hP.q0 many
  have hQ : Qn P many ≤ 5 ^ 6 := Nat.le_trans (hP.ql many) (Nat.pow_le_pow_right (by decide) hm)
  have f1 := first_eq hP.wok S d.rows
  have f2 := second_eq hP.wok S d.rows S d.rows
  have mle : ∀ w, mt S w ≤ 15 := fun w => by
    have := mt_le (fun x hx => (d.pr x hx).2.2.2.2) w
    have := d.len
    omega
  have b1 : first P many S ≤ Qn P many * 15 := by
    rw [← Q_sum hP.wok, ← sumW_mul]
    exact sumW_le fun w _ => Nat.mul_le_mul_left _ (mle w)
  have b2 : second P many S S ≤ Qn P many * 225 := by
    rw [← Q_sum hP.wok, ← sumW_mul]
    refine sumW_le fun w _ => ?_
    rw [Nat.mul_assoc]
    exact Nat.mul_le_mul_left _ (Nat.mul_le_mul (mle w) (mle w))
  have n1 := num_le hQ0 f1.symm
  have n2 := num_le hQ0 f2.symm
  have fa := facts (S := S) hP.wok hQ0
  refine { chk := hP.chk, val := hl ▸ d.val hm, l200 := by have := d.len; omega, q0 := hQ0, q := by omega, one := fun x hx => ?_, two := fun x hx => ⟨by have := (d.pr x hx).2.2.2.2; omega, by have := (d.pr x hx).2.1; omega, fun y hy => ?_⟩, e := by omega, s := by omega, var := ?_ }
  · have := (d.pr x hx).2
    exact ⟨sok hP hl _ (d.rows x hx).1 (d.rows x hx).2 (by rw [rowsOf, List.length_map]; omega), by omega, by omega⟩
  · have a1 := (d.pr x hx).2.1
    have a2 := (d.pr y hy).2.1
    have := un_len x.1 y.1
    refine sok hP hl _ (un_nodup _ _) (fun r hr => ?_) (by omega)
    rcases un_mem.mp hr with q | q
    · exact (d.rows x hx).2 r q
    · exact (d.rows y hy).2 r q
  · have k : ((first P many S * first P many S : Nat) : Rat) ≤ ((Qn P many * second P many S S : Nat) : Rat) := Rat.natCast_le_natCast.mpr fa.fq
    rw [Rat.natCast_mul, Rat.natCast_mul, f1, f2] at k
    have hp : (0 : Rat) < (Qn P many : Rat) := Rat.natCast_pos.mpr (Nat.pos_of_ne_zero hQ0)
    have hp2 := Rat.mul_pos hp hp
    refine Rat.le_of_mul_le_mul_right (c := (Qn P many : Rat) * (Qn P many : Rat)) ?_ hp2
    grind
end K74

set_option Elab.async false
set_option linter.all false
set_option maxRecDepth 100000
namespace K74
open PySem PySem.Spec L2 Mp
open PyProof.Rows hiding St mod_int startT pairsOf allFlat cutD
variable {S : List (List (Nat × Nat) × Nat)} {P : List (Nat × Nat)} {many : Nat}
/-! ### the case, stage by stage -/
noncomputable def cA : SM := (mSeq (mSet 14 (mLst (mCons (fm (mOwn F_expected (mCons (mVar 2) (mCons (mVar 3) mNil)))) (mCons (fm (mOwn F_expected_square (mCons (mVar 2) (mCons (mVar 3) mNil)))) (mCons (fm (mOwn F_spread (mCons (mVar 2) (mCons (mVar 3) mNil)))) mNil)))))
    (mIf (mOrT (mNotT (mTru (fm (mOwn F__law_same (mCons (fm (mBin oIx (mPeek 14) (mLit (.int 0)))) (mCons (mTup (mCons (mVar 6) (mCons (mVar 4) mNil))) mNil)))))) (mOrT (mNotT (mTru (fm (mOwn F__law_same (mCons (fm (mBin oIx (mPeek 14) (mLit (.int 1)))) (mCons (mTup (mCons (mVar 7) (mCons (mVar 4) mNil))) mNil)))))) (mNotT (mTru (fm (mOwn F__law_same (mCons (fm (mBin oIx (mPeek 14) (mLit (.int 2)))) (mCons (mTup (mCons (fm (mBin oSub (fm (mBin oMul (mPeek 7) (mPeek 4))) (fm (mBin oMul (mPeek 6) (mPeek 6))))) (mCons (fm (mBin oMul (mPeek 4) (mPeek 4))) mNil))) mNil))))))))
      (mSeq (mRet (pm (mLit (.bl false))))
    mNext)
      mNext))
/-- numbers of the case -/
structure Cs (S : List (List (Nat × Nat) × Nat)) (P : List (Nat × Nat)) (many : Nat) : Prop where
  g : Good2 S P (Qn P many)
  fa : Facts P many S
  ef : ((first P many S : Nat) : Rat) = ev P S * (Qn P many : Rat)
  ez : ((second P many S S : Nat) : Rat) = sq P S S * (Qn P many : Rat)
  q : Qn P many ≤ 15625
  f : first P many S ≤ 234375
  z : second P many S S ≤ 3515625
theorem stA (c : Cs S P many) (h : EH) (x0 x5 x8 x9 x10 x11 x12 x13 x14 x15 x16 x17 x18 x19 x20 x21 x22 x23 : Sl) :
    cA [x0, .pu (nD many), .pu (sumD S), .pu (prodD P), .pu (nD (Qn P many)), x5, .pu (nD (first P many S)), .pu (nD (second P many S S)), x8, x9, x10, x11, x12, x13, x14, x15, x16, x17, x18, x19, x20, x21, x22, x23] h =
      .nx [x0, .pu (nD many), .pu (sumD S), .pu (prodD P), .pu (nD (Qn P many)), x5, .pu (nD (first P many S)), .pu (nD (second P many S S)), x8, x9, x10, x11, x12, x13, .ow (.lst [rt (ev P S), rt (sq P S S), rt (sq P S S - ev P S * ev P S)]), x15, x16, x17, x18, x19, x20, x21, x22, x23] h := by
  have g := c.g
  have e1 := expected_eq g.toGood h
  have e2 := expected_square_eq g h
  have e3 := spread_eq g h
  have hQ0 := g.q0
  have d1 := ev_den g.one
  have d2 : Den (Qn P many) (sq P S S) := sq_den S fun x hx => (g.two x hx).2.2
  have zq := natQ hQ0
  have ef := c.ef
  have ez := c.ez
  have hq := c.q
  have hf := c.f
  have hz := c.z
  have fq := c.fa.fq
  have nn1 := d1.nn hQ0
  have nn2 := d2.nn hQ0
  have dn1 := d1.den hQ0
  have dn2 := d2.den hQ0
  have hv := g.var
  generalize ev P S = E at *
  generalize sq P S S = V at *
  generalize first P many S = F at *
  generalize second P many S S = Z at *
  generalize Qn P many = Q at *
  have s1 := law_same_eq (r := E) (x := F) (y := Q) hQ0 (by omega) (by omega) nn1 (by grind) h
  have s2 := law_same_eq (r := V) (x := Z) (y := Q) hQ0 (by omega) (by omega) nn2 (by grind) h
  have hQQ : Q * Q ≤ 15625 * 15625 := Nat.mul_le_mul hq hq
  have hle : F * F ≤ Z * Q := by rw [Nat.mul_comm Z]; exact fq
  have eW : V - E * E = ((Z * Q - F * F : Nat) : Rat) / ((Q * Q : Nat) : Rat) := by
    have cc : ((Z * Q - F * F : Nat) : Rat) = Z * Q - F * F := by
      have : ((Z * Q - F * F : Nat) : Rat) + ((F * F : Nat) : Rat) = ((Z * Q : Nat) : Rat) := by
        rw [← Rat.natCast_add, Nat.sub_add_cancel hle]
      simp only [Rat.natCast_mul] at this ⊢
      grind
    rw [cc, Rat.natCast_mul, ef, ez]
    grind
  have nn3 : 0 ≤ V - E * E := (Rat.le_iff_sub_nonneg _ _).mp hv
  have d3 : Den (Q * Q) (V - E * E) := ⟨Z * Q - F * F, by
    rw [eW]
    have := natQ (Nat.mul_ne_zero hQ0 hQ0)
    grind⟩
  have dn3 := d3.den (Nat.mul_ne_zero hQ0 hQ0)
  have s3 := law_same_eq (r := V - E * E) (x := Z * Q - F * F) (y := Q * Q) (Nat.mul_ne_zero hQ0 hQ0) (by omega) (by omega) nn3 eW h
  have ci : (((Z * Q - F * F : Nat)) : Int) = (Z : Int) * Q - F * F := by rw [Int.natCast_sub hle]; simp
  rw [ci, Int.natCast_mul] at s3
  have k1 : ((Q : Int)).natAbs < 2 ^ 64 := by simp; omega
  have k2 : ((F : Int)).natAbs < 2 ^ 64 := by simp; omega
  simp -implicitDefEqProofs [cA, e1, e2, e3, nD, s1, s2, s3, mul_r k1, mul_r k2]
end K74

set_option Elab.async false
set_option linter.all false
set_option maxRecDepth 100000
namespace K74
open PySem PySem.Spec L2 Mp
open PyProof.Rows hiding St mod_int startT pairsOf allFlat cutD
variable {S : List (List (Nat × Nat) × Nat)} {P : List (Nat × Nat)} {many : Nat}
noncomputable def cB : SM := (mAsg (.tp (.cons (.nm 15) (.cons (.nm 16) .nil))) (fm (mOwn F_bounds (mCons (mVar 2) (mCons (mVar 3) mNil)))))
noncomputable def cC : SM := (mIf (mOrT (mTst (mBin oNe (fm (mLc (mWalk (fm (mBin oAdd (mPeek 14) (fm (mLst (mCons (mVar 15) (mCons (mVar 16) mNil))))))) (.nm 5) [5] (mNotT (mTru (fm (mOwn F__law_is_low (mCons (mVar 5) mNil))))) (mVar 5))) (fm (mLst mNil)))) (mTst (mBin oNe (fm (mBin oEq (fm (mBin oIx (mPeek 14) (mLit (.int 2)))) (mTup (mCons (mLit (.int 0)) (mCons (mLit (.int 1)) mNil))))) (fm (mBin oEq (fm (mCall gLen (mCons (mPeek 9) mNil))) (mLit (.int 1)))))))
      (mSeq (mRet (pm (mLit (.bl false))))
    mNext)
      mNext)
noncomputable def cD : SM := (mIf (mOrT (mNotT (mTru (fm (mOwn F__law_same (mCons (mVar 16) (mCons (mTup (mCons (fm (mCall gMin2 (mCons (mPeek 6) (mCons (mPeek 4) mNil)))) (mCons (mVar 4) mNil))) mNil)))))) (mNotT (mTru (fm (mOwn F__law_same (mCons (mVar 15) (mCons (mIfE (mTst (mBin oGt (mPeek 7) (mLit (.int 0)))) (mTup (mCons (fm (mBin oMul (mPeek 6) (mPeek 6))) (mCons (fm (mBin oMul (mPeek 4) (mPeek 7))) mNil))) (mTup (mCons (mLit (.int 0)) (mCons (mLit (.int 1)) mNil)))) mNil)))))))
      (mSeq (mRet (pm (mLit (.bl false))))
    mNext)
      mNext)
noncomputable def cE : SM := (mIf (mOrT (mTst (mBin oGt (fm (mBin oMul (fm (mBin oIx (mPeek 15) (mLit (.int 0)))) (mPeek 4))) (fm (mBin oMul (mPeek 8) (fm (mBin oIx (mPeek 15) (mLit (.int 1)))))))) (mTst (mBin oGt (fm (mBin oMul (mPeek 8) (fm (mBin oIx (mPeek 16) (mLit (.int 1)))))) (fm (mBin oMul (fm (mBin oIx (mPeek 16) (mLit (.int 0)))) (mPeek 4))))))
      (mSeq (mRet (pm (mLit (.bl false))))
    mNext)
      mNext)
noncomputable def cF : SM := (mIf (mTst (mBin oNe (fm (mBin oEq (fm (mBin oMul (fm (mBin oIx (mPeek 15) (mLit (.int 0)))) (mPeek 4))) (fm (mBin oMul (mPeek 8) (fm (mBin oIx (mPeek 15) (mLit (.int 1)))))))) (fm (mBin oLt (fm (mCall gLen (mCons (fm (mLc (mWalk (mPeek 9)) (.nm 22) [22] (mTst (mBin oGt (mPeek 22) (mLit (.int 0)))) (mVar 22))) mNil))) (mLit (.int 2))))))
      (mSeq (mRet (pm (mLit (.bl false))))
    mNext)
      mNext)
theorem ne_bl (h : EH) (a b : Bool) : oNe h (.bl a) (.bl b) = some (.pu (.bl (!decide (a = b)))) := by cases a <;> cases b <;> rfl
theorem eq_two (h : EH) (a b c d : Int) : oEq h (.tup [.int a, .int b]) (.tup [.int c, .int d]) = some (.pu (.bl (decide (a = c) && decide (b = d)))) := by
  simp only [oEq, D.okd, D.okds, okd_int, D.pd, D.pds, PyData.eqv, PyData.eqvAll, Bool.and_self, if_true, Bool.and_true]
  rfl
theorem ne_two (h : EH) (a b c d : Int) : oNe h (.tup [.int a, .int b]) (.tup [.int c, .int d]) = some (.pu (.bl (!(decide (a = c) && decide (b = d))))) := by
  simp only [oNe, D.okd, D.okds, okd_int, D.pd, D.pds, PyData.eqv, PyData.eqvAll, Bool.and_self, if_true, Bool.and_true]
  rfl
def lowOf (S : List (List (Nat × Nat) × Nat)) (P : List (Nat × Nat)) : Rat := ev P S * ev P S / sq P S S
def highOf (S : List (List (Nat × Nat) × Nat)) (P : List (Nat × Nat)) : Rat := if 1 < ev P S then 1 else ev P S
theorem stB (c : Cs S P many) (h : EH) (x0 x4 x5 x6 x7 x8 x9 x10 x11 x12 x13 x14 x15 x16 x17 x18 x19 x20 x21 x22 x23 : Sl) :
    cB [x0, .pu (nD many), .pu (sumD S), .pu (prodD P), x4, x5, x6, x7, x8, x9, x10, x11, x12, x13, x14, x15, x16, x17, x18, x19, x20, x21, x22, x23] h =
      .nx [x0, .pu (nD many), .pu (sumD S), .pu (prodD P), x4, x5, x6, x7, x8, x9, x10, x11, x12, x13, x14, .pu (rt (lowOf S P)), .pu (rt (highOf S P)), x17, x18, x19, x20, x21, x22, x23] h := by
  have e1 := bounds_eq c.g h
  rw [show ev P S * ev P S / sq P S S = lowOf S P from rfl, show (if 1 < ev P S then 1 else ev P S) = highOf S P from rfl] at e1
  simp -implicitDefEqProofs [cB, e1]
/-- the numbers, plain -/
structure Nm (S : List (List (Nat × Nat) × Nat)) (P : List (Nat × Nat)) (many : Nat) : Prop where
  low0 : 0 ≤ lowOf S P
  high0 : 0 ≤ highOf S P
  e0 : 0 ≤ ev P S
  s0 : 0 ≤ sq P S S
  v0 : 0 ≤ sq P S S - ev P S * ev P S
  low : lowOf S P = if 0 < second P many S S then ((first P many S * first P many S : Nat) : Rat) / ((Qn P many * second P many S S : Nat) : Rat) else 0
  high : highOf S P = ((min (first P many S) (Qn P many) : Nat) : Rat) / ((Qn P many : Nat) : Rat)
  var : sq P S S - ev P S * ev P S = 0 ↔ first P many S * first P many S = Qn P many * second P many S S
theorem div_nn {a b : Nat} : (0 : Rat) ≤ (a : Rat) / (b : Rat) := by
  rw [Rat.div_def]
  refine Rat.mul_nonneg Rat.natCast_nonneg ?_
  by_cases z : b = 0
  · subst z; simp
  · have : (0 : Rat) < (b : Rat) := Rat.natCast_pos.mpr (Nat.pos_of_ne_zero z)
    exact Rat.le_of_lt (Rat.inv_pos.mpr this)
theorem nm (c : Cs S P many) : Nm S P many := by
  have g := c.g
  have hQ0 := g.q0
  have d1 := ev_den g.one
  have d2 : Den (Qn P many) (sq P S S) := sq_den S fun x hx => (g.two x hx).2.2
  have zq := natQ hQ0
  have ef := c.ef
  have ez := c.ez
  have nn1 := d1.nn hQ0
  have nn2 := d2.nn hQ0
  have hv := g.var
  have nn3 : 0 ≤ sq P S S - ev P S * ev P S := (Rat.le_iff_sub_nonneg _ _).mp hv
  have el : lowOf S P = if 0 < second P many S S then ((first P many S * first P many S : Nat) : Rat) / ((Qn P many * second P many S S : Nat) : Rat) else 0 := by
    unfold lowOf
    split
    · rename_i hz
      have zz := natQ (Nat.ne_of_gt hz)
      have e1 : ev P S = (first P many S : Rat) / (Qn P many : Rat) := by grind
      have e2 : sq P S S = (second P many S S : Rat) / (Qn P many : Rat) := by grind
      rw [e1, e2, Rat.natCast_mul, Rat.natCast_mul]
      grind
    · rename_i hz
      have z0 : second P many S S = 0 := by omega
      rw [z0] at ez
      have : sq P S S = 0 := by
        have : (0 : Rat) = sq P S S * (Qn P many : Rat) := by simpa using ez
        grind
      rw [this, Rat.div_def, Rat.inv_zero, Rat.mul_zero]
  have eh : highOf S P = ((min (first P many S) (Qn P many) : Nat) : Rat) / ((Qn P many : Nat) : Rat) := by
    unfold highOf
    have e1 : ev P S = (first P many S : Rat) / (Qn P many : Rat) := by grind
    have hp : (0 : Rat) < (Qn P many : Rat) := Rat.natCast_pos.mpr (Nat.pos_of_ne_zero hQ0)
    have k : 1 < ev P S ↔ Qn P many < first P many S := by
      rw [← Rat.natCast_lt_natCast, ef]
      constructor
      · intro q
        have := Rat.mul_lt_mul_of_pos_right q hp
        rwa [Rat.one_mul] at this
      · intro q
        refine Rat.lt_of_mul_lt_mul_right (c := (Qn P many : Rat)) ?_ (Rat.le_of_lt hp)
        rwa [Rat.one_mul]
    split
    · rename_i q
      rw [Nat.min_eq_right (Nat.le_of_lt (k.mp q))]
      grind
    · rename_i q
      rw [Nat.min_eq_left (Nat.le_of_not_lt fun z => q (k.mpr z)), e1]
  refine ⟨?_, ?_, nn1, nn2, nn3, el, eh, ?_⟩
  · rw [el]; split
    · exact div_nn
    · exact Rat.le_refl
  · rw [eh]; exact div_nn
  · rw [← Rat.natCast_inj, Rat.natCast_mul, Rat.natCast_mul, ef, ez]
    constructor
    · intro q
      have : sq P S S = ev P S * ev P S := by grind
      rw [this]; grind
    · intro q
      have : (Qn P many : Rat) * (Qn P many : Rat) * (sq P S S - ev P S * ev P S) = 0 := by grind
      rcases Rat.mul_eq_zero.mp this with z | z
      · rcases Rat.mul_eq_zero.mp z with z | z <;> exact absurd z zq
      · exact z
theorem lows (τ : Tu) (h : EH) (chk : EH → Bool) (hc : chk h = true) (hl : 5 < τ.length) (rs : List Rat) (hr : ∀ r ∈ rs, 0 ≤ r) :
    lcGo chk (lcB (.nm 5) τ (mNotT (mTru (fm (mOwn F__law_is_low (mCons (mVar 5) mNil))))) (mVar 5)) (rs.map rt) h = .ok [] h := by
  rw [lc_map hc (f := fun _ => [])]
  · congr 1
    simp
  · intro d hd
    obtain ⟨r, hq, rfl⟩ := List.mem_map.mp hd
    have := law_low_eq (hr r hq) h
    simp [lcB, this, hl]
theorem stC (c : Cs S P many) (h : EH) (x0 x1 x2 x3 x4 x5 x6 x7 x8 x10 x11 x12 x13 x17 x18 x19 x20 x21 x22 x23 : Sl) :
    cC [x0, x1, x2, x3, x4, x5, x6, x7, x8, .ow (.dct (pk (nums P many S (allW many)))), x10, x11, x12, x13, .ow (.lst [rt (ev P S), rt (sq P S S), rt (sq P S S - ev P S * ev P S)]), .pu (rt (lowOf S P)), .pu (rt (highOf S P)), x17, x18, x19, x20, x21, x22, x23] h =
      .nx [x0, x1, x2, x3, x4, x5, x6, x7, x8, .ow (.dct (pk (nums P many S (allW many)))), x10, x11, x12, x13, .ow (.lst [rt (ev P S), rt (sq P S S), rt (sq P S S - ev P S * ev P S)]), .pu (rt (lowOf S P)), .pu (rt (highOf S P)), x17, x18, x19, x20, x21, x22, x23] h := by
  have n := nm c
  have f0 := c.fa.fq0
  have kp := c.fa.kp
  have iv := n.var
  have len : (pk (nums P many S (allW many))).length = ((nums P many S (allW many)).map (·.1)).length := by simp [pk]
  rw [← len] at f0 kp
  have lw := lows [x0, x1, x2, x3, x4, .em, x6, x7, x8, .ow (.dct (pk (nums P many S (allW many)))), x10, x11, x12, x13, .ow (.lst [rt (ev P S), rt (sq P S S), rt (sq P S S - ev P S * ev P S)]), .pu (rt (lowOf S P)), .pu (rt (highOf S P)), x17, x18, x19, x20, x21, x22, x23] h
    (isAs (.lst [rt (ev P S), rt (sq P S S), rt (sq P S S - ev P S * ev P S), rt (lowOf S P), rt (highOf S P)]) (.lst [rt (ev P S), rt (sq P S S), rt (sq P S S - ev P S * ev P S), rt (lowOf S P), rt (highOf S P)])) (by simp) (by simp) [ev P S, sq P S S, sq P S S - ev P S * ev P S, lowOf S P, highOf S P] (by
      intro r hr
      simp only [List.mem_cons, List.not_mem_nil, or_false] at hr
      rcases hr with rfl | rfl | rfl | rfl | rfl
      · exact n.e0
      · exact n.s0
      · exact n.v0
      · exact n.low0
      · exact n.high0)
  generalize nums P many S (allW many) = N at *
  generalize ev P S = E at *
  generalize sq P S S = V at *
  generalize lowOf S P = lo at *
  generalize highOf S P = hi at *
  generalize hW : V - E * E = W at *
  have ea : oAdd h (.lst [rt E, rt V, rt W]) (.lst [rt lo, rt hi]) = some (.ow (.lst [rt E, rt V, rt W, rt lo, rt hi])) := by
    have hl : [rt E, rt V, rt W].length + [rt lo, rt hi].length ≤ L := by simp [L]
    unfold oAdd
    simp only [if_pos hl]
    rfl
  have en : oNe h (.lst []) (.lst []) = some (.pu (.bl false)) := by rfl
  have ew : oEq h (rt W) (.tup [.int 0, .int 1]) = some (.pu (.bl (decide (W = 0)))) := by
    rw [rt, eq_two]
    congr 3
    rw [Bool.eq_iff_iff, Bool.and_eq_true, decide_eq_true_eq, decide_eq_true_eq, decide_eq_true_eq]
    constructor
    · rintro ⟨a, _⟩; exact Rat.num_eq_zero.mp a
    · rintro rfl; exact ⟨rfl, rfl⟩
  have ll : (pk N).length = 1 ↔ W = 0 := by rw [iv, f0]; omega
  simp only [List.map_cons, List.map_nil] at lw
  have l0 : lcEnd (.ok [] h) = .ok (.ow (.lst [])) h := lcEnd_ok (Nat.zero_le _)
  have el : decide (((pk N).length : Int) = 1) = decide (W = 0) := by
    rw [decide_eq_decide, ← ll]; omega
  simp -implicitDefEqProofs [cC, ea, wipeT, lw, l0, en, ew, ne_bl, el]
end K74

set_option Elab.async false
set_option linter.all false
set_option maxRecDepth 100000
namespace K74
open PySem PySem.Spec L2 Mp
open PyProof.Rows hiding St mod_int startT pairsOf allFlat cutD
variable {S : List (List (Nat × Nat) × Nat)} {P : List (Nat × Nat)} {many : Nat}
theorem gmin (h : EH) (a b : Nat) : gMin2 h [.int (a : Int), .int (b : Int)] = some (.pu (.int ((min a b : Nat) : Int))) := by
  simp only [gMin2, Option.some.injEq, Sl.pu.injEq, D.int.injEq]
  omega
theorem low_den (c : Cs S P many) : (lowOf S P).den < 2 ^ 64 := by
  have n := nm c
  have hq := c.q
  have hz := c.z
  have hQ0 := c.g.q0
  have e := n.low
  split at e
  · rename_i z
    have hne : Qn P many * second P many S S ≠ 0 := Nat.mul_ne_zero hQ0 (by omega)
    have d : Den (Qn P many * second P many S S) (lowOf S P) := ⟨first P many S * first P many S, by
      rw [e]
      have := natQ hne
      grind⟩
    have := d.den hne
    have : Qn P many * second P many S S ≤ 15625 * 3515625 := Nat.mul_le_mul hq hz
    omega
  · rw [e]; decide
theorem stD (c : Cs S P many) (h : EH) (x0 x1 x2 x3 x5 x8 x9 x10 x11 x12 x13 x14 x17 x18 x19 x20 x21 x22 x23 : Sl) :
    cD [x0, x1, x2, x3, .pu (nD (Qn P many)), x5, .pu (nD (first P many S)), .pu (nD (second P many S S)), x8, x9, x10, x11, x12, x13, x14, .pu (rt (lowOf S P)), .pu (rt (highOf S P)), x17, x18, x19, x20, x21, x22, x23] h =
      .nx [x0, x1, x2, x3, .pu (nD (Qn P many)), x5, .pu (nD (first P many S)), .pu (nD (second P many S S)), x8, x9, x10, x11, x12, x13, x14, .pu (rt (lowOf S P)), .pu (rt (highOf S P)), x17, x18, x19, x20, x21, x22, x23] h := by
  have n := nm c
  have hq := c.q
  have hf := c.f
  have hz := c.z
  have hQ0 := c.g.q0
  have ld := low_den c
  have el := n.low
  have eh := n.high
  have l0 := n.low0
  have h0 := n.high0
  generalize lowOf S P = lo at *
  generalize highOf S P = hi at *
  generalize first P many S = F at *
  generalize second P many S S = Z at *
  generalize Qn P many = Q at *
  have hd : hi.den < 2 ^ 64 := by
    have d : Den Q hi := ⟨min F Q, by rw [eh]; have := natQ hQ0; grind⟩
    have := d.den hQ0
    omega
  have s1 := law_same_eq (r := hi) (x := min F Q) (y := Q) hQ0 (by omega) hd h0 eh h
  have gm := gmin h F Q
  have k1 : ((F : Int)).natAbs < 2 ^ 64 := by simp; omega
  have k2 : ((Z : Int)).natAbs < 2 ^ 64 := by simp; omega
  by_cases z : 0 < Z
  · rw [if_pos z] at el
    have hne : Q * Z ≠ 0 := Nat.mul_ne_zero hQ0 (by omega)
    have hb : Q * Z ≤ 15625 * 3515625 := Nat.mul_le_mul hq hz
    have s2 := law_same_eq (r := lo) (x := F * F) (y := Q * Z) hne (by omega) ld l0 el h
    rw [Int.natCast_mul, Int.natCast_mul] at s2
    simp -implicitDefEqProofs [nD] at s1 s2 gm ⊢
    simp -implicitDefEqProofs [cD, nD, gm, s1, s2, z, mul_r k1, mul_r k2]
  · rw [if_neg z] at el
    have s2 := law_same_eq (r := lo) (x := 0) (y := 1) (by decide) (by decide) ld l0 (by rw [el]; simp [Rat.div_def]) h
    simp -implicitDefEqProofs [nD] at s1 s2 gm ⊢
    simp -implicitDefEqProofs [cD, nD, gm, s1, s2, z, mul_r k1, mul_r k2]
/-- the two bounds, in whole numbers -/
theorem low_nat (c : Cs S P many) : ∃ p q : Nat, (lowOf S P).num = (p : Int) ∧ (lowOf S P).den = q ∧ p < 2 ^ 64 ∧ q < 2 ^ 64 ∧ p * Qn P many ≤ sumW (stnd P many S) (allW many) * q ∧ (p * Qn P many = sumW (stnd P many S) (allW many) * q ↔ first P many S * first P many S = sumW (stnd P many S) (allW many) * second P many S S) := by
  have n := nm c
  obtain ⟨p, hp⟩ := num_nn n.low0
  have e := rt_nat hp
  have el := n.low
  have hQ0 := c.g.q0
  have ld := low_den c
  have ft := c.fa.ft
  have tf := c.fa.tf
  have hf := c.f
  have hq := c.q
  have dn := (lowOf S P).den_nz
  generalize lowOf S P = lo at *
  generalize sumW (stnd P many S) (allW many) = t at *
  generalize first P many S = F at *
  generalize second P many S S = Z at *
  generalize Qn P many = Q at *
  have zq := natQ hQ0
  have zd := natQ dn
  by_cases z : 0 < Z
  · rw [if_pos z] at el
    have hne : Q * Z ≠ 0 := Nat.mul_ne_zero hQ0 (by omega)
    have zz := natQ hne
    have zZ := natQ (Nat.ne_of_gt z)
    -- p * (Q * Z) = F * F * den
    have k : p * (Q * Z) = F * F * lo.den := by
      have : (p : Rat) * ((Q * Z : Nat) : Rat) = ((F * F : Nat) : Rat) * (lo.den : Rat) := by
        rw [el] at e
        grind
      rw [← Rat.natCast_mul, ← Rat.natCast_mul, Rat.natCast_inj] at this
      exact this
    have pl : p < 2 ^ 64 := by
      have h1 : F * F ≤ 234375 * 234375 := Nat.mul_le_mul hf hf
      have h2 : lo.num ≤ ((F * F : Nat) : Int) := num_le (Q := Q * Z) hne (by rw [el]; grind)
      rw [hp] at h2
      omega
    refine ⟨p, lo.den, hp, rfl, pl, ld, ?_, ?_⟩
    · refine Nat.le_of_mul_le_mul_right (c := Z) ?_ z
      calc p * Q * Z = F * F * lo.den := by rw [Nat.mul_assoc, k]
        _ ≤ t * Z * lo.den := Nat.mul_le_mul_right _ ft
        _ = t * lo.den * Z := by grind
    · constructor
      · intro q
        refine Nat.eq_of_mul_eq_mul_right (Nat.pos_of_ne_zero dn) ?_
        rw [← k, ← Nat.mul_assoc, q]
        grind
      · intro q
        refine Nat.eq_of_mul_eq_mul_right z ?_
        rw [Nat.mul_assoc, k, q]
        grind
  · rw [if_neg z] at el
    have z0 : Z = 0 := by omega
    have f0 : F = 0 := by
      have : F * F = 0 := by rw [z0] at ft; simpa using ft
      rcases Nat.mul_eq_zero.mp this with z | z <;> exact z
    have t0 : t = 0 := by omega
    have p0 : p = 0 := by
      rw [el] at hp
      have : ((p : Int)) = 0 := hp.symm
      omega
    subst p0 f0 t0 z0
    exact ⟨0, lo.den, hp, rfl, by decide, ld, by simp, by simp⟩
theorem high_nat (c : Cs S P many) : ∃ p q : Nat, (highOf S P).num = (p : Int) ∧ (highOf S P).den = q ∧ p < 2 ^ 64 ∧ q < 2 ^ 64 ∧ sumW (stnd P many S) (allW many) * q ≤ p * Qn P many := by
  have n := nm c
  obtain ⟨p, hp⟩ := num_nn n.high0
  have e := rt_nat hp
  have eh := n.high
  have hQ0 := c.g.q0
  have tf := c.fa.tf
  have tq := c.fa.tq
  have hf := c.f
  have hq := c.q
  have dn := (highOf S P).den_nz
  generalize highOf S P = hi at *
  generalize sumW (stnd P many S) (allW many) = t at *
  generalize first P many S = F at *
  generalize Qn P many = Q at *
  have zq := natQ hQ0
  have zd := natQ dn
  have k : p * Q = min F Q * hi.den := by
    have : (p : Rat) * (Q : Rat) = ((min F Q : Nat) : Rat) * (hi.den : Rat) := by
      rw [eh] at e
      grind
    rw [← Rat.natCast_mul, ← Rat.natCast_mul, Rat.natCast_inj] at this
    exact this
  have d : Den Q hi := ⟨min F Q, by rw [eh]; grind⟩
  have hd := d.den hQ0
  have h2 : hi.num ≤ ((min F Q : Nat) : Int) := num_le (Q := Q) hQ0 (by rw [eh]; grind)
  rw [hp] at h2
  refine ⟨p, hi.den, hp, rfl, by omega, by omega, ?_⟩
  rw [k]
  exact Nat.mul_le_mul_right _ (by omega)
theorem stE (c : Cs S P many) (h : EH) (x0 x1 x2 x3 x5 x6 x7 x9 x10 x11 x12 x13 x14 x17 x18 x19 x20 x21 x22 x23 : Sl) :
    cE [x0, x1, x2, x3, .pu (nD (Qn P many)), x5, x6, x7, .pu (nD (sumW (stnd P many S) (allW many))), x9, x10, x11, x12, x13, x14, .pu (rt (lowOf S P)), .pu (rt (highOf S P)), x17, x18, x19, x20, x21, x22, x23] h =
      .nx [x0, x1, x2, x3, .pu (nD (Qn P many)), x5, x6, x7, .pu (nD (sumW (stnd P many S) (allW many))), x9, x10, x11, x12, x13, x14, .pu (rt (lowOf S P)), .pu (rt (highOf S P)), x17, x18, x19, x20, x21, x22, x23] h := by
  obtain ⟨p, q, e1, e2, b1, b2, le1, _⟩ := low_nat c
  obtain ⟨p', q', e1', e2', b1', b2', le2⟩ := high_nat c
  generalize sumW (stnd P many S) (allW many) = t at *
  generalize Qn P many = Q at *
  have k1 : ((p : Int)).natAbs < 2 ^ 64 := by simpa using b1
  have k2 : ((q : Int)).natAbs < 2 ^ 64 := by simpa using b2
  have k3 : ((p' : Int)).natAbs < 2 ^ 64 := by simpa using b1'
  have k4 : ((q' : Int)).natAbs < 2 ^ 64 := by simpa using b2'
  have c1 : ¬ ((t : Int) * q < p * Q) := by rw [← Int.natCast_mul, ← Int.natCast_mul]; omega
  have c2 : ¬ ((p' : Int) * Q < t * q') := by rw [← Int.natCast_mul, ← Int.natCast_mul]; omega
  simp -implicitDefEqProofs [cE, nD, rt, e1, e2, e1', e2', mul_l k1, mul_r k2, mul_l k3, mul_r k4, c1, c2]
theorem pos_lc (N : List (Nat × Nat)) (τ : Tu) (h : EH) (chk : EH → Bool) (hc : chk h = true) (hl : 22 < τ.length) :
    lcGo chk (lcB (.nm 22) τ (mTst (mBin oGt (mPeek 22) (mLit (.int 0)))) (mVar 22)) ((pk N).map (·.1)) h = .ok (((N.map (·.1)).filter fun n => decide (0 < n)).map nD) h := by
  rw [lc_map hc (f := fun d => match d with
    | .int i => if 0 < i then [.int i] else []
    | _ => [])]
  · congr 1
    unfold pk
    induction N with
    | nil => rfl
    | cons a A ih =>
      by_cases z : 0 < a.1 <;> simp [nD, z] at ih ⊢ <;> exact ih
  · intro d hd
    obtain ⟨e, he, rfl⟩ := List.mem_map.mp hd
    obtain ⟨x, _, rfl⟩ := List.mem_map.mp he
    by_cases z : 0 < x.1 <;> simp [lcB, hl, nD, z]
theorem stF (c : Cs S P many) (hm : many ≤ 6) (h : EH) (x0 x1 x2 x3 x5 x6 x7 x10 x11 x12 x13 x14 x16 x17 x18 x19 x20 x21 x22 x23 : Sl) :
    cF [x0, x1, x2, x3, .pu (nD (Qn P many)), x5, x6, x7, .pu (nD (sumW (stnd P many S) (allW many))), .ow (.dct (pk (nums P many S (allW many)))), x10, x11, x12, x13, x14, .pu (rt (lowOf S P)), x16, x17, x18, x19, x20, x21, x22, x23] h =
      .nx [x0, x1, x2, x3, .pu (nD (Qn P many)), x5, x6, x7, .pu (nD (sumW (stnd P many S) (allW many))), .ow (.dct (pk (nums P many S (allW many)))), x10, x11, x12, x13, x14, .pu (rt (lowOf S P)), x16, x17, x18, x19, x20, x21, x22, x23] h := by
  obtain ⟨p, q, e1, e2, b1, b2, le1, iff1⟩ := low_nat c
  have f0 := c.fa.ft0
  rw [← iff1] at f0
  have lc := pos_lc (nums P many S (allW many)) [x0, x1, x2, x3, .pu (nD (Qn P many)), x5, x6, x7, .pu (nD (sumW (stnd P many S) (allW many))), .ow (.dct (pk (nums P many S (allW many)))), x10, x11, x12, x13, x14, .pu (rt (lowOf S P)), x16, x17, x18, x19, x20, x21, .em, x23] h (isAs (.dct (pk (nums P many S (allW many)))) (.dct (pk (nums P many S (allW many))))) (by simp) (by simp)
  have hlen : ((((nums P many S (allW many)).map (·.1)).filter fun n => decide (0 < n)).map nD).length ≤ L := by
    rw [List.length_map]
    refine Nat.le_trans (List.length_filter_le _ _) ?_
    rw [List.length_map]
    refine Nat.le_trans (nums_len P many S (allW many)) ?_
    rw [allW_len]
    have p6 : 2 ^ many ≤ 2 ^ 6 := Nat.pow_le_pow_right (by decide) hm
    exact Nat.le_trans p6 (by decide)
  have hl2 : ((((nums P many S (allW many)).map (·.1)).filter fun n => decide (0 < n)).map nD).length = (((nums P many S (allW many)).map (·.1)).filter fun n => decide (0 < n)).length := List.length_map ..
  rw [← hl2] at f0
  generalize ((((nums P many S (allW many)).map (·.1)).filter fun n => decide (0 < n)).map nD) = zs at *
  generalize nums P many S (allW many) = N at *
  generalize sumW (stnd P many S) (allW many) = t at *
  generalize Qn P many = Q at *
  have k1 : ((p : Int)).natAbs < 2 ^ 64 := by simpa using b1
  have k2 : ((q : Int)).natAbs < 2 ^ 64 := by simpa using b2
  have el : decide ((p : Int) * Q = t * q) = decide ((zs.length : Int) < 2) := by
    rw [decide_eq_decide, ← Int.natCast_mul, ← Int.natCast_mul]
    have : zs.length < 2 ↔ ((zs.length : Int) < 2) := by omega
    rw [← this, ← f0]
    omega
  simp -implicitDefEqProofs [cF, nD, rt, e1, e2, mul_l k1, mul_r k2, wipeT] at lc ⊢
  simp -implicitDefEqProofs [lc, lcEnd_ok hlen, ne_bl, el]
end K74

set_option Elab.async false
set_option linter.all false
set_option maxRecDepth 100000
namespace K74
open PySem PySem.Spec L2 Mp
open PyProof.Rows hiding St mod_int startT pairsOf allFlat cutD
variable {S : List (List (Nat × Nat) × Nat)} {P : List (Nat × Nat)} {many : Nat}
noncomputable def cG : SM := (mSet 17 (mLst (mCons (mLit .non) (mCons (fm (mBin oMul (mTup (mCons (mTup (mCons (mLit (.int 2)) (mCons (mLit (.int 4)) mNil))) mNil)) (mPeek 1))) (mCons (fm (mBin oMul (mTup (mCons (mTup (mCons (mLit (.int 1)) (mCons (mLit (.int 0)) mNil))) mNil)) (mPeek 1))) (mCons (fm (mBin oMul (fm (mLst (mCons (mTup (mCons (mLit (.int 1)) (mCons (mLit (.int 2)) mNil))) mNil))) (mPeek 1))) (mCons (fm (mBin oMul (mTup (mCons (mTup (mCons (mLit (.int 3)) (mCons (mLit (.int 2)) mNil))) mNil)) (mPeek 1))) mNil)))))))
noncomputable def cH : SM := (mSeq (mIf (mOrT (mTst (mBin oNe (fm (mLc (mWalk (mPeek 17)) (.nm 23) [23] mYes (fm (mOwn F__law_told (mCons (mVar 18) (mCons (mTup (mCons (mVar 2) (mCons (mVar 23) mNil))) mNil)))))) (fm (mBin oMul (fm (mLst (mCons (mLit (.str "none")) mNil))) (mLit (.int 5)))))) (mOrT (mTst (mBin oNe (fm (mOwn F__law_told (mCons (mVar 18) (mCons (mTup (mCons (mLit .non) (mCons (mVar 3) mNil))) mNil)))) (mLit (.str "sum")))) (mTst (mBin oNe (fm (mOwn F__law_told (mCons (mVar 18) (mCons (mTup (mCons (mTup (mCons (mTup (mCons (mTup (mCons (mTup (mCons (mVar 1) (mCons (mLit (.int 1)) mNil))) mNil)) (mCons (mLit (.int 1)) mNil))) mNil)) (mCons (mVar 3) mNil))) mNil)))) (mLit (.str "none"))))))
      (mSeq (mRet (pm (mLit (.bl false))))
    mNext)
      mNext)
    mNext)
def oddD (many : Nat) : List D := [.non, prodD (List.replicate many (2, 4)), prodD (List.replicate many (1, 0)), .lst ((List.replicate many (1, 2)).map pairD), prodD (List.replicate many (3, 2))]
theorem rep_tup (many : Nat) (h1 : 1 ≤ many) (h2 : many ≤ 40) (a b : Nat) (h : EH) : oMul h (.tup [.tup [.int (a : Int), .int (b : Int)]]) (.int (many : Int)) = some (.pu (prodD (List.replicate many (a, b)))) := by
  have c : 1 ≤ (many : Int) ∧ (many : Int) ≤ 1000 ∧ [D.tup [.int (a : Int), .int (b : Int)]].length ≤ 1000 ∧ [D.tup [.int (a : Int), .int (b : Int)]] ≠ [] := ⟨by omega, by omega, by simp, by simp⟩
  unfold oMul
  simp only [if_pos c, Int.toNat_natCast, prodD, List.map_replicate, pairD]
  congr 3
  clear c h1 h2
  induction many with
  | zero => rfl
  | succ n ih => rw [List.replicate_succ, List.flatten_cons, ih, List.replicate_succ]; rfl
theorem rep_flat (many : Nat) (d : D) : (List.replicate many [d]).flatten = List.replicate many d := by
  induction many with
  | zero => rfl
  | succ n ih => rw [List.replicate_succ, List.flatten_cons, ih, List.replicate_succ]; rfl
theorem rep_lst (many : Nat) (h2 : many ≤ 40) (d : D) (h : EH) : oMul h (.lst [d]) (.int (many : Int)) = some (.ow (.lst (List.replicate many d))) := by
  have c : 0 ≤ (many : Int) ∧ (many : Int) ≤ 1000000 ∧ [d].length * (many : Int).toNat ≤ L := ⟨by omega, by omega, by simp [L]; omega⟩
  unfold oMul
  simp only [Int.toNat_natCast] at c ⊢
  rw [if_pos c, rep_flat]
theorem stG (h1 : 1 ≤ many) (h2 : many ≤ 40) (h : EH) (x0 x2 x3 x4 x5 x6 x7 x8 x9 x10 x11 x12 x13 x14 x15 x16 x17 x18 x19 x20 x21 x22 x23 : Sl) :
    cG [x0, .pu (nD many), x2, x3, x4, x5, x6, x7, x8, x9, x10, x11, x12, x13, x14, x15, x16, x17, x18, x19, x20, x21, x22, x23] h =
      .nx [x0, .pu (nD many), x2, x3, x4, x5, x6, x7, x8, x9, x10, x11, x12, x13, x14, x15, x16, .ow (.lst (oddD many)), x18, x19, x20, x21, x22, x23] h := by
  have r1 := rep_tup many h1 h2 2 4 h
  have r2 := rep_tup many h1 h2 1 0 h
  have r3 := rep_tup many h1 h2 3 2 h
  have r4 := rep_lst many h2 (.tup [.int 1, .int 2]) h
  have e4 : (List.replicate many (1, 2)).map pairD = List.replicate many (.tup [.int 1, .int 2]) := by rw [List.map_replicate]; rfl
  simp at r1 r2 r3
  simp -implicitDefEqProofs [cG, nD, r1, r2, r3, r4, oddD, e4]
theorem none5 (h : EH) : oNe h (.lst (List.replicate 5 (.str "none"))) (.lst (List.replicate 5 (.str "none"))) = some (.pu (.bl false)) := by kernel_rfl
theorem none1 (h : EH) : oNe h (.str "none") (.str "none") = some (.pu (.bl false)) := by kernel_rfl
theorem sum1 (h : EH) : oNe h (.str "sum") (.str "sum") = some (.pu (.bl false)) := by kernel_rfl
theorem told_none (i : Nat) {a b : D} {h : EH} (e : F_check_chances [a, b] h = .exc ⟨"NoSuch", []⟩ h) : F__law_told [.glob (fn i).1, .tup [a, b]] h = .ok (.pu (.str "none")) h := by
  rw [told_exc i (.inr (.inl rfl)) e, w2]
theorem told_sum (i : Nat) {a b : D} {h : EH} (e : F_check_chances [a, b] h = .exc ⟨"BadSum", []⟩ h) : F__law_told [.glob (fn i).1, .tup [a, b]] h = .ok (.pu (.str "sum")) h := by
  rw [told_exc i (.inl rfl) e, w1]
theorem odd_none (h1 : 1 ≤ many) (h2 : many ≤ 39) (v : Val S many) (h : EH) : ∀ d ∈ oddD many, F_check_chances [sumD S, d] h = .exc ⟨"NoSuch", []⟩ h := by
  intro d hd
  unfold oddD at hd
  have rep : ∀ (a b : Nat), b < 2 ^ 64 → ¬ (1 ≤ b ∧ a ≤ b ∧ Nat.gcd a b = 1) → F_check_chances [sumD S, prodD (List.replicate many (a, b))] h = .exc ⟨"NoSuch", []⟩ h := fun a b hb hn =>
    chances_bad S many v _ (by rw [List.length_replicate]; omega) (fun x hx => by rw [(List.mem_replicate.mp hx).2]; exact hb) ⟨(a, b), List.mem_replicate.mpr ⟨by omega, rfl⟩, hn⟩ h
  simp only [List.mem_cons, List.not_mem_nil, or_false] at hd
  rcases hd with rfl | rfl | rfl | rfl | rfl
  · exact chances_non S many v h
  · exact rep 2 4 (by decide) (by decide)
  · exact rep 1 0 (by decide) (by decide)
  · exact chances_lst S many v _ h
  · exact rep 3 2 (by decide) (by decide)
theorem fn_glob : [D.glob "expected", .glob "expected_square", .glob "bounds", .glob "spread"] = [0, 1, 2, 3].map fun i => D.glob (fn i).1 := rfl
theorem stH (h1 : 1 ≤ many) (h2 : many ≤ 39) (v : Val S many) (hP : Chk P) (hl : P.length = many) (h : EH) (chk : EH → Bool) (hc : chk h = true) (x0 x4 x5 x6 x7 x8 x9 x10 x11 x12 x13 x14 x15 x16 x18 x19 x20 x21 x22 x23 : Sl) : ∃ y18,
    forGo chk (.nm 18) cH ([0, 1, 2, 3].map fun i => D.glob (fn i).1) [x0, .pu (nD many), .pu (sumD S), .pu (prodD P), x4, x5, x6, x7, x8, x9, x10, x11, x12, x13, x14, x15, x16, .ow (.lst (oddD many)), x18, x19, x20, x21, x22, x23] h =
      .nx [x0, .pu (nD many), .pu (sumD S), .pu (prodD P), x4, x5, x6, x7, x8, x9, x10, x11, x12, x13, x14, x15, x16, .ow (.lst (oddD many)), y18, x19, x20, x21, x22, x23] h := by
  have key := forGo_list (f := fun i => D.glob (fn i).1) (t := .nm 18) (b := cH) (h := h) hc
    (fun _ τ => ∃ y18, τ = [x0, .pu (nD many), .pu (sumD S), .pu (prodD P), x4, x5, x6, x7, x8, x9, x10, x11, x12, x13, x14, x15, x16, .ow (.lst (oddD many)), y18, x19, x20, x21, x22, x23])
    [0, 1, 2, 3] (τ := [x0, .pu (nD many), .pu (sumD S), .pu (prodD P), x4, x5, x6, x7, x8, x9, x10, x11, x12, x13, x14, x15, x16, .ow (.lst (oddD many)), x18, x19, x20, x21, x22, x23]) ⟨_, rfl⟩ (by
      rintro i rs τ ⟨y18, rfl⟩
      refine ⟨[x0, .pu (nD many), .pu (sumD S), .pu (prodD P), x4, x5, x6, x7, x8, x9, x10, x11, x12, x13, x14, x15, x16, .ow (.lst (oddD many)), .pu (.glob (fn i).1), x19, x20, x21, x22, x23], [x0, .pu (nD many), .pu (sumD S), .pu (prodD P), x4, x5, x6, x7, x8, x9, x10, x11, x12, x13, x14, x15, x16, .ow (.lst (oddD many)), .pu (.glob (fn i).1), x19, x20, x21, x22, x23], by simp, ?_, _, rfl⟩
      have on := odd_none h1 h2 v h
      have t2 := told_sum i (chances_sum (prodD P) h)
      have t3 := told_none i (chances_row many (by omega) P hP hl h)
      have e5 : lcGo (isAs (.lst (oddD many)) (.lst (oddD many))) (lcB (.nm 23) [x0, .pu (nD many), .pu (sumD S), .pu (prodD P), x4, x5, x6, x7, x8, x9, x10, x11, x12, x13, x14, x15, x16, .ow (.lst (oddD many)), .pu (.glob (fn i).1), x19, x20, x21, x22, .em] mYes (fm (mOwn F__law_told (mCons (mVar 18) (mCons (mTup (mCons (mVar 2) (mCons (mVar 23) mNil))) mNil))))) (oddD many) h = .ok (List.replicate 5 (.str "none")) h := by
        rw [lc_map (by simp) (f := fun _ => [.str "none"])]
        · congr 1
        · intro d hd
          have t1 := told_none i (on d hd)
          generalize (fn i).1 = g at *
          simp -implicitDefEqProofs [lcB, t1]
      have r5 := rep_lst 5 (by decide) (.str "none") h
      have l5 : lcEnd (.ok (List.replicate 5 (D.str "none")) h) = .ok (.ow (.lst (List.replicate 5 (.str "none")))) h := lcEnd_ok (by simp [L])
      have n5 := none5 h
      generalize List.replicate 5 (D.str "none") = r at *
      generalize oddD many = od at *
      generalize (fn i).1 = g at *
      have t3' : F__law_told [.glob g, .tup [.tup [.tup [.tup [.tup [.int (many : Int), .int 1]], .int 1]], prodD P]] h = .ok (.pu (.str "none")) h := t3
      simp [nD] at e5 r5
      simp -implicitDefEqProofs [cH, nD, wipeT, e5, l5, r5, n5, t2, sum1, t3', none1])
  obtain ⟨τ', ⟨y18, rfl⟩, g⟩ := key
  exact ⟨y18, g⟩
end K74

set_option Elab.async false
set_option linter.all false
set_option maxRecDepth 100000
namespace K74
open PySem PySem.Spec L2 Mp
open PyProof.Rows hiding St mod_int startT pairsOf allFlat cutD
variable {S : List (List (Nat × Nat) × Nat)} {P : List (Nat × Nat)} {many : Nat}
theorem seq_assoc (a b c : SM) : mSeq (mSeq a b) c = mSeq a (mSeq b c) := by
  funext τ h
  simp only [v_seq]
  cases a τ h <;> rfl
noncomputable def c1 : SM := (mSet 1 (mBin oAdd (mLit (.int 1)) (fm (mOwn F__law_draw (mCons (mVar 0) (mCons (mLit (.int 6)) mNil))))))
noncomputable def c2 : SM := (mSet 2 (mOwn F__law_sum (mCons (mVar 0) (mCons (mVar 1) mNil))))
noncomputable def oneM : EM := (fm (mOwn F__law_one (mCons (mVar 0) (mCons (fm (mLst (mCons (mTup (mCons (mLit (.int 1)) (mCons (mLit (.int 2)) mNil))) (mCons (mTup (mCons (mLit (.int 0)) (mCons (mLit (.int 1)) mNil))) (mCons (mTup (mCons (mLit (.int 1)) (mCons (mLit (.int 1)) mNil))) (mCons (mTup (mCons (mLit (.int 1)) (mCons (mLit (.int 3)) mNil))) (mCons (mTup (mCons (mLit (.int 3)) (mCons (mLit (.int 4)) mNil))) (mCons (mTup (mCons (mLit (.int 2)) (mCons (mLit (.int 5)) mNil))) mNil)))))))) mNil))))
noncomputable def c3 : SM := (mSet 3 (mCall gTuple (mCons (fm (mLc (mRng rngB1 (mCons (mPeek 1) mNil)) (.nm 12) [12] mYes oneM)) mNil)))
noncomputable def c4 : SM := (mSet 4 (pm (mLit (.int 1))))
noncomputable def qB : SM := (mSeq (mSet 4 (mBin oMul (mPeek 4) (fm (mBin oIx (mPeek 5) (mLit (.int 1))))))
    mNext)
noncomputable def c5 : SM := (mFor (mWalk (mVar 3)) (.nm 5) qB)
noncomputable def c6 : SM := (mAsg (.tp (.cons (.nm 6) (.cons (.nm 7) (.cons (.nm 8) .nil)))) (mTup (mCons (mLit (.int 0)) (mCons (mLit (.int 0)) (mCons (mLit (.int 0)) mNil)))))
noncomputable def c7 : SM := (mSet 9 mDct0)
noncomputable def c8 : SM := (mFor (mWalk (fm (mOwn F__law_all (mCons (mVar 1) mNil)))) (.nm 10) wB)
noncomputable def cI : SM := (mFor (mWalk (fm (mLst (mCons (mLit (.glob "expected")) (mCons (mLit (.glob "expected_square")) (mCons (mLit (.glob "bounds")) (mCons (mLit (.glob "spread")) mNil))))))) (.nm 18) cH)
noncomputable def cJ : SM := (mRet (pm (mLit (.bl true))))
theorem case_split : m__law_case = mSeq c1 (mSeq c2 (mSeq c3 (mSeq c4 (mSeq c5 (mSeq c6 (mSeq c7 (mSeq c8 (mSeq cA (mSeq cB (mSeq cC (mSeq cD (mSeq cE (mSeq cF (mSeq cG (mSeq cI (mSeq cJ mNext)))))))))))))))) := by
  unfold cA
  rw [seq_assoc]
  rfl
theorem parts_go (τ : Tu) (n : Nat) (h0 : τ[0]? = some (.pu (.ref n))) (hl : 12 < τ.length) : ∀ (ds : List D) (h : EH), Bag h n → ∃ (P : List (Nat × Nat)) (h' : EH), (∀ x ∈ P, x ∈ six) ∧ P.length = ds.length ∧ Bag h' n ∧ lcGo (fun _ => true) (lcB (.nm 12) τ mYes oneM) ds h = .ok (P.map pairD) h'
  | [], h, hb => ⟨[], h, by simp, rfl, hb, by simp [lcGo]⟩
  | d :: ds, h, hb => by
    obtain ⟨x, h1, hx, b1, e1⟩ := law_one_eq n h hb
    obtain ⟨P, h2, hP, hl2, b2, e2⟩ := parts_go τ n h0 hl ds h1 b1
    refine ⟨x :: P, h2, ?_, by simp [hl2], b2, ?_⟩
    · intro y hy
      rcases List.mem_cons.mp hy with rfl | hy
      · exact hx
      · exact hP y hy
    · simp only [six, List.map_cons, List.map_nil, pairD] at e1
      have g0 : (τ.set 12 (.pu d))[0]? = some (.pu (.ref n)) := by rw [List.getElem?_set_ne (by decide)]; exact h0
      simp at e1
      have e3 : lcB (.nm 12) τ mYes oneM d h = .ok [pairD x] h1 := by
        simp -implicitDefEqProofs [lcB, oneM, g0, e1]
        rfl
      unfold lcGo
      simp only [e3, if_true, v_bok, e2]
      rfl
theorem st3 (n : Nat) (hm : many ≤ 6) (h : EH) (hb : Bag h n) (x2 x3 x4 x5 x6 x7 x8 x9 x10 x11 x12 x13 x14 x15 x16 x17 x18 x19 x20 x21 x22 x23 : Sl) : ∃ P h', Parts P ∧ P.length = many ∧ Bag h' n ∧
    c3 [.pu (.ref n), .pu (nD many), x2, x3, x4, x5, x6, x7, x8, x9, x10, x11, x12, x13, x14, x15, x16, x17, x18, x19, x20, x21, x22, x23] h =
      .nx [.pu (.ref n), .pu (nD many), x2, .pu (prodD P), x4, x5, x6, x7, x8, x9, x10, x11, x12, x13, x14, x15, x16, x17, x18, x19, x20, x21, x22, x23] h' := by
  obtain ⟨P, h', hP, hl, b, e⟩ := parts_go [.pu (.ref n), .pu (nD many), x2, x3, x4, x5, x6, x7, x8, x9, x10, x11, .em, x13, x14, x15, x16, x17, x18, x19, x20, x21, x22, x23] n rfl (by simp) (rangeD 0 many) h hb
  rw [rangeD_len] at hl
  refine ⟨P, h', ⟨hP, by omega⟩, hl, b, ?_⟩
  have r1 := rng1 (k := many) (by omega)
  have hl' : (P.map pairD).length ≤ L := by rw [List.length_map, hl]; exact Nat.le_trans hm (by decide)
  have e' := lcEnd_ok (h := h') hl'
  have pd : D.tup (P.map pairD) = prodD P := rfl
  generalize P.map pairD = zs at *
  simp -implicitDefEqProofs [c3, nD, wipeT] at e ⊢
  simp -implicitDefEqProofs [r1, e, e', pd]
theorem st5 (hP : Parts P) (hl : P.length = many) (h : EH) (x0 x1 x2 x5 x6 x7 x8 x9 x10 x11 x12 x13 x14 x15 x16 x17 x18 x19 x20 x21 x22 x23 : Sl) : ∃ y5,
    c5 [x0, x1, x2, .pu (prodD P), .pu (.int 1), x5, x6, x7, x8, x9, x10, x11, x12, x13, x14, x15, x16, x17, x18, x19, x20, x21, x22, x23] h =
      .nx [x0, x1, x2, .pu (prodD P), .pu (nD (Qn P many)), y5, x6, x7, x8, x9, x10, x11, x12, x13, x14, x15, x16, x17, x18, x19, x20, x21, x22, x23] h := by
  have key := for_ix (chk := isAs (prodD P) (prodD P)) (t := .nm 5) (b := qB) (P.map pairD) (fun i τ h' => h' = h ∧ ∃ y5, τ = [x0, x1, x2, .pu (prodD P), .pu (nD (Qn P i)), y5, x6, x7, x8, x9, x10, x11, x12, x13, x14, x15, x16, x17, x18, x19, x20, x21, x22, x23]) 0
    (τ := [x0, x1, x2, .pu (prodD P), .pu (.int 1), x5, x6, x7, x8, x9, x10, x11, x12, x13, x14, x15, x16, x17, x18, x19, x20, x21, x22, x23]) (h := h) ⟨rfl, _, rfl⟩ (fun _ _ _ _ => by simp [prodD]) (by
      intro i hi τ h' q
      rw [List.length_map] at hi
      obtain ⟨rfl, y5, rfl⟩ := q
      rw [Nat.zero_add]
      have hx : P[i]? = some P[i] := List.getElem?_eq_getElem hi
      have e2 : dn P i = P[i].2 := by unfold dn; rw [List.getD_eq_getElem?_getD, hx]; rfl
      have hd := (hP.pd i).2.2
      have k1 : ((dn P i : Nat) : Int).natAbs < 2 ^ 64 := by simp; omega
      refine ⟨[x0, x1, x2, .pu (prodD P), .pu (nD (Qn P i)), .pu (pairD P[i]), x6, x7, x8, x9, x10, x11, x12, x13, x14, x15, x16, x17, x18, x19, x20, x21, x22, x23], [x0, x1, x2, .pu (prodD P), .pu (nD (Qn P (i + 1))), .pu (pairD P[i]), x6, x7, x8, x9, x10, x11, x12, x13, x14, x15, x16, x17, x18, x19, x20, x21, x22, x23], h', by simp, .inl ?_, rfl, _, rfl⟩
      rw [e2] at k1
      simp [qB, pairD, nD, mul_r k1, Qn, e2])
  obtain ⟨τ', h', ⟨rfl, y5, rfl⟩, g⟩ := key
  rw [List.length_map, hl, Nat.zero_add] at g
  refine ⟨y5, ?_⟩
  simp [prodD] at g
  simp [c5, prodD, g]
theorem st8 (d : Drawn many S) (hP : Parts P) (hl : P.length = many) (h : EH) (x0 x4 x5 x10 x11 x12 x13 x14 x15 x16 x17 x18 x19 x20 x21 x22 x23 : Sl) : ∃ y10 y11 y12 y13,
    c8 [x0, .pu (nD many), .pu (sumD S), .pu (prodD P), x4, x5, .pu (nD 0), .pu (nD 0), .pu (nD 0), .ow (.dct []), x10, x11, x12, x13, x14, x15, x16, x17, x18, x19, x20, x21, x22, x23] h =
      .nx [x0, .pu (nD many), .pu (sumD S), .pu (prodD P), x4, x5, .pu (nD (first P many S)), .pu (nD (second P many S S)), .pu (nD (sumW (stnd P many S) (allW many))), .ow (.dct (pk (nums P many S (allW many)))), y10, y11, y12, y13, x14, x15, x16, x17, x18, x19, x20, x21, x22, x23] h := by
  have hm : many ≤ 6 := by have := hP.len; omega
  have la := law_all_eq many hm h
  obtain ⟨y10, y11, y12, y13, e⟩ := world_loop (S := S) (P := P) ⟨fun x hx => (six_ok x (hP.six x hx)).1, fun x hx => (six_ok x (hP.six x hx)).2.2.1⟩ hl hm (by have := d.len; omega) (fun x hx => by have := (d.pr x hx).2.1; omega) (fun w => by
    have := mt_le (fun x hx => (d.pr x hx).2.2.2.2) w
    have := d.len
    omega) h (isAs (.lst ((allW many).map worldD)) (.lst ((allW many).map worldD))) (by simp) x0 x4 x5 x10 x11 x12 x13 x14 x15 x16 x17 x18 x19 x20 x21 x22 x23
  refine ⟨y10, y11, y12, y13, ?_⟩
  generalize (allW many).map worldD = zs at *
  simp only [nD] at e la
  simp -implicitDefEqProofs [c8, nD, la]
  exact e
theorem cs (d : Drawn many S) (hP : Parts P) (hl : P.length = many) : Cs S P many := by
  have hm : many ≤ 6 := by have := hP.len; omega
  have hQ0 := hP.q0 many
  have hQ : Qn P many ≤ 5 ^ 6 := Nat.le_trans (hP.ql many) (Nat.pow_le_pow_right (by decide) hm)
  have f1 := first_eq hP.wok S d.rows
  have f2 := second_eq hP.wok S d.rows S d.rows
  have mle : ∀ w, mt S w ≤ 15 := fun w => by
    have := mt_le (fun x hx => (d.pr x hx).2.2.2.2) w
    have := d.len
    omega
  have b1 : first P many S ≤ Qn P many * 15 := by
    rw [← Q_sum hP.wok, ← sumW_mul]
    exact sumW_le fun w _ => Nat.mul_le_mul_left _ (mle w)
  have b2 : second P many S S ≤ Qn P many * 225 := by
    rw [← Q_sum hP.wok, ← sumW_mul]
    refine sumW_le fun w _ => ?_
    rw [Nat.mul_assoc]
    exact Nat.mul_le_mul_left _ (Nat.mul_le_mul (mle w) (mle w))
  exact ⟨good d hP hl, facts hP.wok hQ0, f1, f2, by omega, by omega, by omega⟩
theorem seq_nx {m n : SM} {τ τ' : Tu} {h h' : EH} (e : m τ h = .nx τ' h') : mSeq m n τ h = n τ' h' := by rw [v_seq, e, v_snx]
theorem case_start (n : Nat) (h : EH) : F__law_case [.ref n] h = bodyEnd (m__law_case [.pu (.ref n), .em, .em, .em, .em, .em, .em, .em, .em, .em, .em, .em, .em, .em, .em, .em, .em, .em, .em, .em, .em, .em, .em, .em] h) := by
  unfold F__law_case bodyF
  rw [if_pos (show [D.ref n].length = 1 from rfl)]
  rfl
theorem sI_eq (τ : Tu) (h3 : EH) : cI τ h3 = forGo (isAs (.lst ([0, 1, 2, 3].map fun i => D.glob (fn i).1)) (.lst ([0, 1, 2, 3].map fun i => D.glob (fn i).1))) (.nm 18) cH ([0, 1, 2, 3].map fun i => D.glob (fn i).1) τ h3 := by
  rw [← fn_glob]
  simp -implicitDefEqProofs [cI]
theorem case_eq {h : EH} {n : Nat} (hb : Bag h n) : ∃ h', F__law_case [.ref n] h = .ok (.pu (.bl true)) h' := by
  obtain ⟨v, h1, d1, v6, b1⟩ := draw_eq hb (many := 6) (by decide) (by decide)
  obtain ⟨S, h2, ds, b2, e2⟩ := law_sum_eq n (1 + v) (by omega) (by omega) h1 b1
  obtain ⟨P, h3, hP, hl, b3, e3⟩ := st3 (many := 1 + v) n (by omega) h2 b2 (.pu (sumD S)) .em .em .em .em .em .em .em .em .em .em .em .em .em .em .em .em .em .em .em .em .em
  obtain ⟨y5, e5⟩ := st5 hP hl h3 (.pu (.ref n)) (.pu (nD (1 + v))) (.pu (sumD S)) .em .em .em .em .em .em .em .em .em .em .em .em .em .em .em .em .em .em .em
  have c := cs ds hP hl
  obtain ⟨y10, y11, y12, y13, e8⟩ := st8 ds hP hl h3 (.pu (.ref n)) (.pu (nD (Qn P (1 + v)))) y5 .em .em .em .em .em .em .em .em .em .em .em .em .em .em
  have hm : 1 + v ≤ 6 := by omega
  have val := ds.val hm
  generalize hmany : 1 + v = many at *
  have h1m : 1 ≤ many := by omega
  have eA := stA c h3 (.pu (.ref n)) y5 (.pu (nD (sumW (stnd P many S) (allW many)))) (.ow (.dct (pk (nums P many S (allW many))))) y10 y11 y12 y13 .em .em .em .em .em .em .em .em .em .em
  have eB := stB c h3 (.pu (.ref n)) (.pu (nD (Qn P many))) y5 (.pu (nD (first P many S))) (.pu (nD (second P many S S))) (.pu (nD (sumW (stnd P many S) (allW many)))) (.ow (.dct (pk (nums P many S (allW many))))) y10 y11 y12 y13 (.ow (.lst [rt (ev P S), rt (sq P S S), rt (sq P S S - ev P S * ev P S)])) .em .em .em .em .em .em .em .em .em
  have eC := stC c h3 (.pu (.ref n)) (.pu (nD many)) (.pu (sumD S)) (.pu (prodD P)) (.pu (nD (Qn P many))) y5 (.pu (nD (first P many S))) (.pu (nD (second P many S S))) (.pu (nD (sumW (stnd P many S) (allW many)))) y10 y11 y12 y13 .em .em .em .em .em .em .em
  have eD := stD c h3 (.pu (.ref n)) (.pu (nD many)) (.pu (sumD S)) (.pu (prodD P)) y5 (.pu (nD (sumW (stnd P many S) (allW many)))) (.ow (.dct (pk (nums P many S (allW many))))) y10 y11 y12 y13 (.ow (.lst [rt (ev P S), rt (sq P S S), rt (sq P S S - ev P S * ev P S)])) .em .em .em .em .em .em .em
  have eE := stE c h3 (.pu (.ref n)) (.pu (nD many)) (.pu (sumD S)) (.pu (prodD P)) y5 (.pu (nD (first P many S))) (.pu (nD (second P many S S))) (.ow (.dct (pk (nums P many S (allW many))))) y10 y11 y12 y13 (.ow (.lst [rt (ev P S), rt (sq P S S), rt (sq P S S - ev P S * ev P S)])) .em .em .em .em .em .em .em
  have eF := stF c hm h3 (.pu (.ref n)) (.pu (nD many)) (.pu (sumD S)) (.pu (prodD P)) y5 (.pu (nD (first P many S))) (.pu (nD (second P many S S))) y10 y11 y12 y13 (.ow (.lst [rt (ev P S), rt (sq P S S), rt (sq P S S - ev P S * ev P S)])) (.pu (rt (highOf S P))) .em .em .em .em .em .em .em
  have eG := stG (many := many) h1m (by omega) h3 (.pu (.ref n)) (.pu (sumD S)) (.pu (prodD P)) (.pu (nD (Qn P many))) y5 (.pu (nD (first P many S))) (.pu (nD (second P many S S))) (.pu (nD (sumW (stnd P many S) (allW many)))) (.ow (.dct (pk (nums P many S (allW many))))) y10 y11 y12 y13 (.ow (.lst [rt (ev P S), rt (sq P S S), rt (sq P S S - ev P S * ev P S)])) (.pu (rt (lowOf S P))) (.pu (rt (highOf S P))) .em .em .em .em .em .em .em
  obtain ⟨y18, eH⟩ := stH h1m (by omega) val hP.chk hl h3 (isAs (.lst ([0, 1, 2, 3].map fun i => D.glob (fn i).1)) (.lst ([0, 1, 2, 3].map fun i => D.glob (fn i).1))) (by simp) (.pu (.ref n)) (.pu (nD (Qn P many))) y5 (.pu (nD (first P many S))) (.pu (nD (second P many S S))) (.pu (nD (sumW (stnd P many S) (allW many)))) (.ow (.dct (pk (nums P many S (allW many))))) y10 y11 y12 y13 (.ow (.lst [rt (ev P S), rt (sq P S S), rt (sq P S S - ev P S * ev P S)])) (.pu (rt (lowOf S P))) (.pu (rt (highOf S P))) .em .em .em .em .em .em
  refine ⟨h3, ?_⟩
  have s1 : c1 [.pu (.ref n), .em, .em, .em, .em, .em, .em, .em, .em, .em, .em, .em, .em, .em, .em, .em, .em, .em, .em, .em, .em, .em, .em, .em] h = .nx [.pu (.ref n), .pu (nD many), .em, .em, .em, .em, .em, .em, .em, .em, .em, .em, .em, .em, .em, .em, .em, .em, .em, .em, .em, .em, .em, .em] h1 := by
    simp at d1
    simp -implicitDefEqProofs [c1, d1, nD, ← hmany]
  have s2 : c2 [.pu (.ref n), .pu (nD many), .em, .em, .em, .em, .em, .em, .em, .em, .em, .em, .em, .em, .em, .em, .em, .em, .em, .em, .em, .em, .em, .em] h1 = .nx [.pu (.ref n), .pu (nD many), .pu (sumD S), .em, .em, .em, .em, .em, .em, .em, .em, .em, .em, .em, .em, .em, .em, .em, .em, .em, .em, .em, .em, .em] h2 := by
    simp -implicitDefEqProofs [c2, e2, nD]
  have start : F__law_case [.ref n] h = bodyEnd (m__law_case [.pu (.ref n), .em, .em, .em, .em, .em, .em, .em, .em, .em, .em, .em, .em, .em, .em, .em, .em, .em, .em, .em, .em, .em, .em, .em] h) := case_start n h
  have s4 : ∀ (a b c d e : Sl), c4 [a, b, c, d, e, .em, .em, .em, .em, .em, .em, .em, .em, .em, .em, .em, .em, .em, .em, .em, .em, .em, .em, .em] h3 = .nx [a, b, c, d, .pu (.int 1), .em, .em, .em, .em, .em, .em, .em, .em, .em, .em, .em, .em, .em, .em, .em, .em, .em, .em, .em] h3 := fun a b c d e => by simp -implicitDefEqProofs [c4]
  have s6 : ∀ (a b c d e f : Sl), c6 [a, b, c, d, e, f, .em, .em, .em, .em, .em, .em, .em, .em, .em, .em, .em, .em, .em, .em, .em, .em, .em, .em] h3 = .nx [a, b, c, d, e, f, .pu (nD 0), .pu (nD 0), .pu (nD 0), .em, .em, .em, .em, .em, .em, .em, .em, .em, .em, .em, .em, .em, .em, .em] h3 := fun a b c d e f => by simp -implicitDefEqProofs [c6, nD]
  have s7 : ∀ (a b c d e f : Sl), c7 [a, b, c, d, e, f, .pu (nD 0), .pu (nD 0), .pu (nD 0), .em, .em, .em, .em, .em, .em, .em, .em, .em, .em, .em, .em, .em, .em, .em] h3 = .nx [a, b, c, d, e, f, .pu (nD 0), .pu (nD 0), .pu (nD 0), .ow (.dct []), .em, .em, .em, .em, .em, .em, .em, .em, .em, .em, .em, .em, .em, .em] h3 := fun a b c d e f => by simp -implicitDefEqProofs [c7]
  have sJ : ∀ τ, mSeq cJ mNext τ h3 = .ret (.pu (.bl true)) h3 := fun τ => by simp -implicitDefEqProofs [cJ]
  rw [start, case_split, seq_nx s1, seq_nx s2, seq_nx e3, seq_nx (s4 _ _ _ _ _), seq_nx e5, seq_nx (s6 _ _ _ _ _ _), seq_nx (s7 _ _ _ _ _ _), seq_nx e8, seq_nx eA, seq_nx eB, seq_nx eC, seq_nx eD, seq_nx eE, seq_nx eF, seq_nx eG, seq_nx ((sI_eq _ _).trans eH), sJ, v_eret]
end K74

set_option Elab.async false
set_option linter.all false
set_option maxRecDepth 100000
namespace K74
open PySem PySem.Spec L2 Mp
open PyProof.Rows hiding St mod_int startT pairsOf allFlat cutD
/-! ### the law's own sums -/
def half (n : Nat) : List (Nat × Nat) := List.replicate n (1, 2)
theorem half_chk (n : Nat) (h : n ≤ 40) : Chk (half n) := by
  have m : ∀ x ∈ half n, x = (1, 2) := fun x hx => (List.mem_replicate.mp hx).2
  exact { pos := fun x hx => by rw [m x hx]; decide, le := fun x hx => by rw [m x hx]; decide, sm := fun x hx => by rw [m x hx]; decide, low := fun x hx => by rw [m x hx]; decide, len := by simpa [half] using h }
theorem half_get (n r : Nat) (h : r < n) : (half n).getD r (1, 1) = (1, 2) := by
  rw [List.getD_eq_getElem?_getD, half, List.getElem?_replicate, if_pos h]; rfl
theorem half_p (n : Nat) : ∀ rows : List Nat, (∀ r ∈ rows, r < n) → pOf (half n) rows = 1
  | [], _ => rfl
  | r :: rs, h => by
    have := half_p n rs fun x hx => h x (List.mem_cons_of_mem _ hx)
    unfold pOf at this ⊢
    rw [List.map_cons, List.prod_cons, this, half_get n r (h r List.mem_cons_self)]; rfl
theorem half_d (n : Nat) : ∀ rows : List Nat, (∀ r ∈ rows, r < n) → dOf (half n) rows = 2 ^ rows.length
  | [], _ => rfl
  | r :: rs, h => by
    have := half_d n rs fun x hx => h x (List.mem_cons_of_mem _ hx)
    unfold dOf at this ⊢
    rw [List.map_cons, List.prod_cons, this, half_get n r (h r List.mem_cons_self), List.length_cons, Nat.pow_succ, Nat.mul_comm]
theorem half_sok (n : Nat) (rows : List Nat) (h : ∀ r ∈ rows, r < n) (hl : rows.length ≤ 2) : SOk (half n) 4 rows := by
  refine ⟨fun r q => by simpa [half] using h r q, ?_, ?_⟩
  · rw [half_d n rows h]
    exact Nat.pow_lt_pow_right (by decide) (by omega)
  · unfold Den pr
    rw [half_d n rows h, half_p n rows h]
    have : rows.length = 0 ∨ rows.length = 1 ∨ rows.length = 2 := by omega
    rcases this with e | e | e <;> rw [e]
    · exact ⟨4, by decide +kernel⟩
    · exact ⟨2, by decide +kernel⟩
    · exact ⟨1, by decide +kernel⟩
def coins : List (List (Nat × Nat) × Nat) := (List.range 40).map fun r => ([(r, 1)], 1)
theorem coins_mem {x : List (Nat × Nat) × Nat} (h : x ∈ coins) : ∃ r, r < 40 ∧ x = ([(r, 1)], 1) := by
  obtain ⟨r, hr, rfl⟩ := List.mem_map.mp h
  exact ⟨r, List.mem_range.mp hr, rfl⟩
instance : DecidableRel Lt := fun a b => inferInstanceAs (Decidable (_ ∧ _))
theorem coins_val : Val coins 40 := by
  refine ⟨by decide, by simp [coins], ?_, ?_, ?_, ?_, ?_, ?_⟩
  · intro x hx; obtain ⟨r, _, rfl⟩ := coins_mem hx; exact Nat.le_refl 1
  · intro x hx; obtain ⟨r, _, rfl⟩ := coins_mem hx; simp
  · intro x hx; obtain ⟨r, _, rfl⟩ := coins_mem hx; simpa [rowsOf] using ‹r < 40›
  · intro x hx; obtain ⟨r, _, rfl⟩ := coins_mem hx; simp [rowsOf]
  · intro x hx; obtain ⟨r, _, rfl⟩ := coins_mem hx; simp
  · decide +kernel
theorem coins_ev : ev (half 40) coins = 20 := by decide +kernel
theorem coins_sq : sq (half 40) coins coins = 410 := by decide +kernel
theorem coins_good : Good2 coins (half 40) 4 := by
  refine { chk := half_chk 40 (by decide), val := coins_val, l200 := by simp [coins], q0 := by decide, q := by decide, one := ?_, two := ?_, e := ?_, s := ?_, var := ?_ }
  · intro x hx
    obtain ⟨r, hr, rfl⟩ := coins_mem hx
    exact ⟨half_sok 40 _ (by simpa [rowsOf] using hr) (by simp [rowsOf]), show 1 < 2 ^ 64 by decide, show 1 ≤ 40 by decide⟩
  · intro x hx
    obtain ⟨r, hr, rfl⟩ := coins_mem hx
    refine ⟨show 1 < 2 ^ 32 by decide, show 1 ≤ 40 by decide, fun y hy => ?_⟩
    obtain ⟨t, ht, rfl⟩ := coins_mem hy
    refine half_sok 40 _ (fun q hq => ?_) (un_len _ _)
    rcases un_mem.mp hq with z | z <;> simp [rowsOf] at z <;> omega
  · rw [coins_ev]; decide
  · rw [coins_sq]; decide
  · rw [coins_ev, coins_sq]; decide +kernel
/-! ### all pairs -/
def evs (k : Nat) : List (List (Nat × Nat) × Nat) := (List.range k).flatMap fun j => (List.range j).map fun i => ([(i, 1), (j, 1)], 1)
theorem evs_mem {k : Nat} {x : List (Nat × Nat) × Nat} (h : x ∈ evs k) : ∃ i j, i < j ∧ j < k ∧ x = ([(i, 1), (j, 1)], 1) := by
  obtain ⟨j, hj, h⟩ := List.mem_flatMap.mp h
  obtain ⟨i, hi, rfl⟩ := List.mem_map.mp h
  exact ⟨i, j, List.mem_range.mp hi, List.mem_range.mp hj, rfl⟩
theorem evs_succ (k : Nat) : evs (k + 1) = evs k ++ (List.range k).map fun i => ([(i, 1), (k, 1)], 1) := by
  unfold evs
  rw [List.range_succ, List.flatMap_append]
  simp
theorem evs_nodup : ((evs 21).map (·.1)).Nodup := by decide +kernel
theorem evs_len : (evs 21).length = 210 := by decide +kernel
structure Ev (T : List (List (Nat × Nat) × Nat)) : Prop where
  mem : ∀ x ∈ T, x ∈ evs 21
  key : (T.map fun x => prodD x.1).Pairwise Lt
  len : T.length ≤ 210
theorem Ev.val {T : List (List (Nat × Nat) × Nat)} (e : Ev T) : Val T 21 := by
  refine ⟨by decide, by have := e.len; omega, ?_, ?_, ?_, ?_, ?_, e.key⟩
  · intro x hx; obtain ⟨i, j, hi, hj, rfl⟩ := evs_mem (e.mem x hx); exact Nat.le_refl 1
  · intro x hx; obtain ⟨i, j, hi, hj, rfl⟩ := evs_mem (e.mem x hx); simp
  · intro x hx; obtain ⟨i, j, hi, hj, rfl⟩ := evs_mem (e.mem x hx); simp [rowsOf]; omega
  · intro x hx; obtain ⟨i, j, hi, hj, rfl⟩ := evs_mem (e.mem x hx); simp [rowsOf]; omega
  · intro x hx; obtain ⟨i, j, hi, hj, rfl⟩ := evs_mem (e.mem x hx); simp
theorem Ev.ev {T : List (List (Nat × Nat) × Nat)} (e : Ev T) : K74.ev (half 21) T = (T.length : Rat) / 4 := by
  have hm := e.mem
  clear e
  induction T with
  | nil => simp [K74.ev, Rat.div_def]
  | cons x T ih =>
    rw [ev_cons, ih fun y hy => hm y (List.mem_cons_of_mem _ hy), List.length_cons]
    obtain ⟨i, j, hi, hj, rfl⟩ := evs_mem (hm x List.mem_cons_self)
    have hr : ∀ r ∈ rowsOf [(i, 1), (j, 1)], r < 21 := by simp [rowsOf]; omega
    rw [pr, half_p 21 _ hr, half_d 21 _ hr, show 2 ^ (rowsOf [(i, 1), (j, 1)]).length = 4 from rfl, Rat.natCast_add]
    grind
theorem Ev.good {T : List (List (Nat × Nat) × Nat)} (e : Ev T) (h200 : T.length ≤ 200) : Good T (half 21) 4 := by
  refine { chk := half_chk 21 (by decide), val := e.val, l200 := h200, q0 := by decide, q := by decide, one := ?_ }
  intro x hx
  obtain ⟨i, j, hi, hj, rfl⟩ := evs_mem (e.mem x hx)
  exact ⟨half_sok 21 _ (by simp [rowsOf]; omega) (by simp [rowsOf]), show 1 < 2 ^ 64 by decide, show 2 ≤ 40 by decide⟩
theorem chances_far (S : List (List (Nat × Nat) × Nat)) (P : List (Nat × Nat)) (hP : Chk P) (v : Val S P.length) (h200 : 200 < S.length) (h : EH) : F_check_chances [sumD S, prodD P] h = .exc ⟨"TooFar", []⟩ h := by
  have e1 := check_sum_eq S _ v h
  have e2 := is_sum_eq S _ v h
  have e3 := parts_lc P (.pu (sumD S)) (.pu (prodD P)) h (isAs (prodD P) (prodD P)) (by simp [prodD]) hP.sm
  have hall : (P.map fun x => decide (1 ≤ x.2 ∧ x.1 ≤ x.2 ∧ Nat.gcd x.1 x.2 = 1)).all id = true := by
    rw [List.all_eq_true]
    intro b hb
    obtain ⟨e, he, rfl⟩ := List.mem_map.mp hb
    exact decide_eq_true ⟨Nat.pos_of_ne_zero (hP.pos e he), hP.le e he, hP.low e he⟩
  have hlen : (P.map fun x => decide (1 ≤ x.2 ∧ x.1 ≤ x.2 ∧ Nat.gcd x.1 x.2 = 1)).length ≤ L := by
    rw [List.length_map]; exact Nat.le_trans hP.len (by decide)
  generalize (P.map fun x => decide (1 ≤ x.2 ∧ x.1 ≤ x.2 ∧ Nat.gcd x.1 x.2 = 1)) = bs at e3 hall hlen
  have hf : ¬ (false ∈ bs) := fun q => by
    have := List.all_eq_true.mp hall _ q
    exact absurd this (by simp)
  have h40 : ¬ ((40 : Int) < (P.length : Int)) := by have := hP.len; omega
  have h200' : ((200 : Int) < (S.length : Int)) := by omega
  show bodyEnd (m_check_chances [.pu (sumD S), .pu (prodD P), .em] h) = _
  simp [prodD] at e2 e3
  simp [m_check_chances, e1, prodD, h40, wipeT, e3, lcEnd_ok, hlen, gAll_lst, hf, e2]
  simp [sumD, h200']
theorem good_nil : Good2 [] [] 1 := by
  refine { chk := half_chk 0 (by decide), val := ⟨by decide, by decide, by simp, by simp, by simp, by simp, by simp, by simp⟩, l200 := by decide, q0 := by decide, q := by decide, one := by simp, two := by simp [SqOk], e := by decide +kernel, s := by decide +kernel, var := by decide +kernel }
theorem good_three : Good2 [([], 3)] [] 1 := by
  have so : SOk [] 1 [] := ⟨by simp, by decide +kernel, 1, by decide +kernel⟩
  refine { chk := half_chk 0 (by decide), val := ⟨by decide, by decide, by simp, by simp, by simp [rowsOf], by simp [rowsOf], by simp, by simp⟩, l200 := by decide, q0 := by decide, q := by decide, one := ?_, two := ?_, e := by decide +kernel, s := by decide +kernel, var := by decide +kernel }
  · intro x hx
    rw [List.mem_singleton.mp hx]
    exact ⟨so, by decide, by decide⟩
  · intro x hx
    rw [List.mem_singleton.mp hx]
    refine ⟨by decide, by decide, fun y hy => ?_⟩
    rw [List.mem_singleton.mp hy]
    exact so
end K74

set_option Elab.async false
set_option linter.all false
set_option maxRecDepth 100000
namespace K74
open PySem PySem.Spec L2 Mp
open PyProof.Rows hiding St mod_int startT pairsOf allFlat cutD
noncomputable def l1 : SM := (mSet 1 (mCall gTuple (mCons (fm (mLc (mRng rngB1 (mCons (mLit (.int 40)) mNil)) (.nm 6) [6] mYes (mTup (mCons (mTup (mCons (mTup (mCons (mVar 6) (mCons (mLit (.int 1)) mNil))) mNil)) (mCons (mLit (.int 1)) mNil))))) mNil)))
noncomputable def l2 : SM := (mIf (mOrT (mTst (mBin oNe (fm (mOwn F_expected (mCons (mVar 1) (mCons (fm (mBin oMul (mTup (mCons (mTup (mCons (mLit (.int 1)) (mCons (mLit (.int 2)) mNil))) mNil)) (mLit (.int 40)))) mNil)))) (mTup (mCons (mLit (.int 20)) (mCons (mLit (.int 1)) mNil))))) (mOrT (mTst (mBin oNe (fm (mOwn F_spread (mCons (mVar 1) (mCons (fm (mBin oMul (mTup (mCons (mTup (mCons (mLit (.int 1)) (mCons (mLit (.int 2)) mNil))) mNil)) (mLit (.int 40)))) mNil)))) (mTup (mCons (mLit (.int 10)) (mCons (mLit (.int 1)) mNil))))) (mOrT (mTst (mBin oNe (fm (mOwn F_bounds (mCons (mVar 1) (mCons (fm (mBin oMul (mTup (mCons (mTup (mCons (mLit (.int 1)) (mCons (mLit (.int 2)) mNil))) mNil)) (mLit (.int 40)))) mNil)))) (mTup (mCons (mTup (mCons (mLit (.int 40)) (mCons (mLit (.int 41)) mNil))) (mCons (mTup (mCons (mLit (.int 1)) (mCons (mLit (.int 1)) mNil))) mNil))))) (mTst (mBin oNe (mLit (.int 200)) (mLit (.int 200)))))))
      (mSeq (mRet (pm (mLit (.bl false))))
    mNext)
      mNext)
noncomputable def l3 : SM := (mSet 2 (mLst mNil))
noncomputable def l4b : SM := (mSeq (mSet 2 (mBin oAdd (mPeek 2) (fm (mLc (mRng rngB1 (mCons (mPeek 3) mNil)) (.nm 7) [7] mYes (mTup (mCons (mTup (mCons (mTup (mCons (mVar 7) (mCons (mLit (.int 1)) mNil))) (mCons (mTup (mCons (mVar 3) (mCons (mLit (.int 1)) mNil))) mNil))) (mCons (mLit (.int 1)) mNil)))))))
    mNext)
noncomputable def l4 : SM := (mFor (mRng rngB1 (mCons (mLit (.int 21)) mNil)) (.nm 3) l4b)
noncomputable def l5 : SM := (mSet 4 (mCall gTuple (mCons (fm (mCall gSorted (mCons (mPeek 2) mNil))) mNil)))
noncomputable def l6 : SM := (mIf (mOrT (mTst (mBin oNe (fm (mOwn F__law_told (mCons (mLit (.glob "expected")) (mCons (mTup (mCons (mVar 4) (mCons (fm (mBin oMul (mTup (mCons (mTup (mCons (mLit (.int 1)) (mCons (mLit (.int 2)) mNil))) mNil)) (mLit (.int 21)))) mNil))) mNil)))) (mLit (.str "far")))) (mOrT (mTst (mBin oNe (fm (mOwn F_expected (mCons (fm (mSl (mPeek 4) mNoPart (mPart (mLit (.int 200))))) (mCons (fm (mBin oMul (mTup (mCons (mTup (mCons (mLit (.int 1)) (mCons (mLit (.int 2)) mNil))) mNil)) (mLit (.int 21)))) mNil)))) (mTup (mCons (mLit (.int 50)) (mCons (mLit (.int 1)) mNil))))) (mOrT (mTst (mBin oNe (fm (mOwn F_bounds (mCons (mTup mNil) (mCons (mTup mNil) mNil)))) (mTup (mCons (mTup (mCons (mLit (.int 0)) (mCons (mLit (.int 1)) mNil))) (mCons (mTup (mCons (mLit (.int 0)) (mCons (mLit (.int 1)) mNil))) mNil))))) (mTst (mBin oNe (fm (mOwn F_bounds (mCons (mTup (mCons (mTup (mCons (mTup mNil) (mCons (mLit (.int 3)) mNil))) mNil)) (mCons (mTup mNil) mNil)))) (mTup (mCons (mTup (mCons (mLit (.int 1)) (mCons (mLit (.int 1)) mNil))) (mCons (mTup (mCons (mLit (.int 1)) (mCons (mLit (.int 1)) mNil))) mNil))))))))
      (mSeq (mRet (pm (mLit (.bl false))))
    mNext)
      mNext)
noncomputable def l7b : SM := (mSeq (mIf (mNotT (mTru (fm (mOwn F__law_case (mCons (rm (mOwn F__law_bag (mCons (mVar 0) (mCons (mVar 5) mNil)))) mNil)))))
      (mSeq (mRet (pm (mLit (.bl false))))
    mNext)
      mNext)
    mNext)
noncomputable def l7 : SM := (mFor (mRng rngB1 (mCons (fm (mCall gMin2 (mCons (fm (mCall gMax2 (mCons (fm (mCall gLen (mCons (mPeek 0) mNil))) (mCons (mLit (.int 1)) mNil)))) (mCons (mLit (.int 5)) mNil)))) mNil)) (.nm 5) l7b)
theorem law_split : m_law = mSeq l1 (mSeq l2 (mSeq l3 (mSeq l4 (mSeq l5 (mSeq l6 (mSeq l7 (mSeq cJ mNext))))))) := rfl
theorem law_start (d : D) (h : EH) : F_law [d] h = bodyEnd (m_law [.pu d, .em, .em, .em, .em, .em, .em, .em] h) := by
  unfold F_law bodyF
  rw [if_pos (show [d].length = 1 from rfl)]
  rfl
theorem range_lc {f : Nat → D} {blk : D → EH → R (List D)} {h : EH} (k : Nat) (hb : ∀ i, i < k → blk (.int (i : Int)) h = .ok [f i] h) : lcGo (fun _ => true) blk (rangeD 0 k) h = .ok ((List.range k).map f) h := by
  rw [lc_map rfl (f := fun d => match d with
    | .int i => [f i.toNat]
    | _ => [])]
  · congr 1
    simp only [rangeD]
    generalize List.range k = l
    induction l with
    | nil => rfl
    | cons a l ih => simp at ih ⊢; exact ih
  · intro d hd
    simp only [rangeD, List.mem_map, List.mem_range] at hd
    obtain ⟨i, hi, rfl⟩ := hd
    simp only [Int.zero_add, hb i hi]
    rfl
theorem s1 (x0 : Sl) (h : EH) : l1 [x0, .em, .em, .em, .em, .em, .em, .em] h = .nx [x0, .pu (sumD coins), .em, .em, .em, .em, .em, .em] h := by
  have r1 := rng1 (k := 40) (by decide)
  have e := range_lc (h := h) (f := fun i => itemD ([(i, 1)], 1)) (blk := lcB (.nm 6) [x0, .em, .em, .em, .em, .em, .em, .em] mYes (mTup (mCons (mTup (mCons (mTup (mCons (mVar 6) (mCons (mLit (.int 1)) mNil))) mNil)) (mCons (mLit (.int 1)) mNil)))) 40 (fun i hi => by simp [lcB, itemD, prodD, pairD])
  have ec : (List.range 40).map (fun i => itemD ([(i, 1)], 1)) = coins.map itemD := by unfold coins; rw [List.map_map]; rfl
  rw [ec] at e
  have hl : (coins.map itemD).length ≤ L := by simp [coins, L]
  have e' := lcEnd_ok (h := h) hl
  have pd : D.tup (coins.map itemD) = sumD coins := rfl
  generalize coins.map itemD = zs at *
  simp -implicitDefEqProofs at r1
  simp -implicitDefEqProofs [l1, wipeT, r1, e, e', pd]
theorem ne_four (h : EH) (a b c d a' b' c' d' : Int) : oNe h (.tup [.tup [.int a, .int b], .tup [.int c, .int d]]) (.tup [.tup [.int a', .int b'], .tup [.int c', .int d']]) = some (.pu (.bl (!((decide (a = a') && decide (b = b')) && (decide (c = c') && decide (d = d')))))) := by
  simp only [oNe, D.okd, D.okds, okd_int, D.pd, D.pds, PyData.eqv, PyData.eqvAll, Bool.and_self, if_true, Bool.and_true]
  rfl
theorem halfs (n : Nat) (h1 : 1 ≤ n) (h2 : n ≤ 40) (h : EH) : oMul h (.tup [.tup [.int 1, .int 2]]) (.int (n : Int)) = some (.pu (prodD (half n))) := rep_tup n h1 h2 1 2 h
theorem s2 (x0 : Sl) (h : EH) : l2 [x0, .pu (sumD coins), .em, .em, .em, .em, .em, .em] h = .nx [x0, .pu (sumD coins), .em, .em, .em, .em, .em, .em] h := by
  have g := coins_good
  have e1 := expected_eq g.toGood h
  have e2 := spread_eq g h
  have e3 := bounds_eq g h
  have hh := halfs 40 (by decide) (by decide) h
  have k1 : rt (20 : Rat) = .tup [.int 20, .int 1] := by decide +kernel
  have k2 : rt (410 - 20 * 20 : Rat) = .tup [.int 10, .int 1] := by decide +kernel
  have k3 : rt (20 * 20 / 410 : Rat) = .tup [.int 40, .int 41] := by decide +kernel
  have k4 : rt (if (1 : Rat) < 20 then 1 else 20) = .tup [.int 1, .int 1] := by decide +kernel
  rw [coins_ev] at e1
  rw [coins_ev, coins_sq] at e2 e3
  rw [k1] at e1
  rw [k2] at e2
  rw [k3, k4] at e3
  have hh' : oMul h (.tup [.tup [.int 1, .int 2]]) (.int 40) = some (.pu (prodD (half 40))) := hh
  generalize half 40 = P at *
  generalize coins = S at *
  simp -implicitDefEqProofs [l2, hh', e1, e2, e3, ne_two, ne_four]
theorem s4 (x0 x1 x3 x4 x5 x6 x7 : Sl) (h : EH) : ∃ y3, l4 [x0, x1, .ow (.lst []), x3, x4, x5, x6, x7] h = .nx [x0, x1, .ow (.lst ((evs 21).map itemD)), y3, x4, x5, x6, x7] h := by
  have key := for_ix (chk := fun _ => true) (t := .nm 3) (b := l4b) (rangeD 0 21) (fun i τ h' => i ≤ 21 → h' = h ∧ ∃ y3, τ = [x0, x1, .ow (.lst ((evs i).map itemD)), y3, x4, x5, x6, x7]) 0
    (τ := [x0, x1, .ow (.lst []), x3, x4, x5, x6, x7]) (h := h) (fun _ => ⟨rfl, _, rfl⟩) (fun _ _ _ _ => rfl) (by
      intro i hi τ h' q
      rw [rangeD_len] at hi
      obtain ⟨rfl, y3, rfl⟩ := q (by omega)
      rw [Nat.zero_add]
      refine ⟨[x0, x1, .ow (.lst ((evs i).map itemD)), .pu (.int (i : Int)), x4, x5, x6, x7], [x0, x1, .ow (.lst ((evs (i + 1)).map itemD)), .pu (.int (i : Int)), x4, x5, x6, x7], h', by simp [rangeD_get], .inl ?_, fun _ => ⟨rfl, _, rfl⟩⟩
      have r1 := rng1 (k := i) (by omega)
      have e := range_lc (h := h') (f := fun k => itemD ([(k, 1), (i, 1)], 1)) (blk := lcB (.nm 7) [x0, x1, .ow (.lst ((evs i).map itemD)), .pu (.int (i : Int)), x4, x5, x6, .em] mYes (mTup (mCons (mTup (mCons (mTup (mCons (mVar 7) (mCons (mLit (.int 1)) mNil))) (mCons (mTup (mCons (mVar 3) (mCons (mLit (.int 1)) mNil))) mNil))) (mCons (mLit (.int 1)) mNil)))) i (fun k hk => by simp [lcB, itemD, prodD, pairD])
      have hl : ((List.range i).map fun k => itemD ([(k, 1), (i, 1)], 1)).length ≤ L := by
        rw [List.length_map, List.length_range]
        exact Nat.le_trans (show i ≤ 21 by omega) (by decide)
      have e' := lcEnd_ok (h := h') hl
      have ele : ∀ k, k ≤ 21 → (evs k).length ≤ 500 := by decide +kernel
      have hl2 : ((evs i).map itemD).length + ((List.range i).map fun k => itemD ([(k, 1), (i, 1)], 1)).length ≤ L := by
        have := ele i (by omega)
        simp only [List.length_map, List.length_range, L]
        omega
      have ea : oAdd h' (.lst ((evs i).map itemD)) (.lst ((List.range i).map fun k => itemD ([(k, 1), (i, 1)], 1))) = some (.ow (.lst ((evs (i + 1)).map itemD))) := by
        unfold oAdd
        simp only [if_pos hl2]
        rw [evs_succ, List.map_append, List.map_map]
        rfl
      generalize ((List.range i).map fun k => itemD ([(k, 1), (i, 1)], 1)) = zs at *
      simp -implicitDefEqProofs [l4b, wipeT, r1, e, e', ea])
  obtain ⟨τ', h', q, g⟩ := key
  rw [rangeD_len] at q
  obtain ⟨rfl, y3, rfl⟩ := q (by omega)
  refine ⟨y3, ?_⟩
  have r1 := rng1 (k := 21) (by decide)
  simp -implicitDefEqProofs at r1
  simp -implicitDefEqProofs [l4, r1, g]
theorem s5 (x0 x1 x3 x4 x5 x6 x7 : Sl) (h : EH) : ∃ S, Ev S ∧ S.length = 210 ∧ l5 [x0, x1, .ow (.lst ((evs 21).map itemD)), x3, x4, x5, x6, x7] h = .nx [x0, x1, .ow (.lst ((evs 21).map itemD)), x3, .pu (sumD S), x5, x6, x7] h := by
  obtain ⟨S, e, p, k⟩ := sort_items (evs 21) evs_nodup
  refine ⟨S, ⟨fun x hx => p.mem_iff.mp hx, k, by rw [p.length_eq, evs_len]; decide⟩, by rw [p.length_eq, evs_len], ?_⟩
  have so := sortOk_items (evs 21) (by rw [evs_len]; decide)
  have gs : gSorted h [.lst ((evs 21).map itemD)] = some (.ow (.lst (S.map itemD))) := by
    unfold gSorted
    simp only [der_lst]
    rw [if_pos so, e]
  have pd : D.tup (S.map itemD) = sumD S := rfl
  generalize (evs 21).map itemD = zs at *
  simp -implicitDefEqProofs [l5, gs, pd]
theorem far1 (h : EH) : oNe h (.str "far") (.str "far") = some (.pu (.bl false)) := by kernel_rfl
theorem s6 {S : List (List (Nat × Nat) × Nat)} (e : Ev S) (hl : S.length = 210) (x0 x1 x2 x3 x5 x6 x7 : Sl) (h : EH) : l6 [x0, x1, x2, x3, .pu (sumD S), x5, x6, x7] h = .nx [x0, x1, x2, x3, .pu (sumD S), x5, x6, x7] h := by
  have f1 := chances_far S (half 21) (half_chk 21 (by decide)) (by simpa [half] using e.val) (by omega) h
  have t1 := told_exc 0 (.inr (.inr rfl)) f1
  rw [w3] at t1
  have e2 : Ev (S.take 200) := ⟨fun x hx => e.mem x (List.mem_of_mem_take hx), by rw [List.map_take]; exact e.key.sublist (List.take_sublist _ _), by have := List.length_take_le 200 S; omega⟩
  have hl2 : (S.take 200).length = 200 := by rw [List.length_take]; omega
  have e3 := expected_eq (e2.good (by omega)) h
  rw [e2.ev, hl2] at e3
  have k1 : rt (((200 : Nat) : Rat) / 4) = .tup [.int 50, .int 1] := by decide +kernel
  rw [k1] at e3
  have e4 := bounds_eq good_nil h
  have k2 : rt (ev [] [] * ev [] [] / sq [] [] []) = .tup [.int 0, .int 1] := by decide +kernel
  have k3 : rt (if 1 < ev [] [] then 1 else ev [] []) = .tup [.int 0, .int 1] := by decide +kernel
  rw [k2, k3] at e4
  have e5 := bounds_eq good_three h
  have k4 : rt (ev [] [([], 3)] * ev [] [([], 3)] / sq [] [([], 3)] [([], 3)]) = .tup [.int 1, .int 1] := by decide +kernel
  have k5 : rt (if 1 < ev [] [([], 3)] then 1 else ev [] [([], 3)]) = .tup [.int 1, .int 1] := by decide +kernel
  rw [k4, k5] at e5
  have cut : slB (sumD S) none (some 200) = some (.pu (sumD (S.take 200))) := by
    have h1 : HT.sIx (S.map itemD).length 0 none = 0 := rfl
    have h2 : HT.sIx (S.map itemD).length (S.map itemD).length (some 200) = min 200 (S.map itemD).length := HT.sIx_nat _ _ 200
    unfold sumD slB Mp.cutD
    simp only [h1, h2]
    rw [List.drop_zero, List.length_map, hl, ← List.map_take]
    rfl
  have hh : oMul h (.tup [.tup [.int 1, .int 2]]) (.int 21) = some (.pu (prodD (half 21))) := halfs 21 (by decide) (by decide) h
  have ds : der h (sumD S) = sumD S := rfl
  have e4' : F_bounds [.tup [], .tup []] h = .ok (.pu (.tup [.tup [.int 0, .int 1], .tup [.int 0, .int 1]])) h := e4
  have e5' : F_bounds [.tup [.tup [.tup [], .int 3]], .tup []] h = .ok (.pu (.tup [.tup [.int 1, .int 1], .tup [.int 1, .int 1]])) h := e5
  have g0 : (fn 0).1 = "expected" := rfl
  rw [g0] at t1
  generalize S.take 200 = T at *
  generalize half 21 = P at *
  simp -implicitDefEqProofs [l6, hh, t1, far1, e3, e4', e5', cut, ds, mSl, mPart, mNoPart, ne_two, ne_four]
theorem s7 (ns : List Int) (hn : ns.length ≤ 63) (x1 x2 x3 x4 x5 x6 x7 : Sl) (h : EH) : ∃ τ' h', l7 [.pu (.fzl (ns.map .int)), x1, x2, x3, x4, x5, x6, x7] h = .nx τ' h' := by
  obtain ⟨k, hk, gm⟩ : ∃ k : Nat, k ≤ 5 ∧ ∀ h : EH, ∃ d, gMax2 h [.int ((ns.map D.int).length : Int), .int 1] = some (.pu d) ∧ gMin2 h [d, .int 5] = some (.pu (.int (k : Int))) := by
    by_cases c1 : ns.length < 1
    · refine ⟨1, by decide, fun h => ⟨.int 1, ?_, ?_⟩⟩
      · simp only [gMax2, List.length_map, Option.some.injEq, Sl.pu.injEq, D.int.injEq]; omega
      · simp only [gMin2, Option.some.injEq, Sl.pu.injEq, D.int.injEq]; omega
    · refine ⟨min ns.length 5, by omega, fun h => ⟨.int (ns.length : Int), ?_, ?_⟩⟩
      · simp only [gMax2, List.length_map, Option.some.injEq, Sl.pu.injEq, D.int.injEq]; omega
      · simp only [gMin2, Option.some.injEq, Sl.pu.injEq, D.int.injEq]; omega
  obtain ⟨d, g1, g2⟩ := gm h
  have key := for_ix (chk := fun _ => true) (t := .nm 5) (b := l7b) (rangeD 0 k) (fun i τ h' => ∃ y5, τ = [.pu (.fzl (ns.map .int)), x1, x2, x3, x4, y5, x6, x7]) 0
    (τ := [.pu (.fzl (ns.map .int)), x1, x2, x3, x4, x5, x6, x7]) (h := h) ⟨_, rfl⟩ (fun _ _ _ _ => rfl) (by
      intro i hi τ h' q
      obtain ⟨y5, rfl⟩ := q
      obtain ⟨a, b, c, ha, eb⟩ := law_bag_eq ns i h'
      have hb : Bag (h' ++ [.lst [.int a, .int b, .int c]]) h'.length := ⟨a, b, c, by simp, ha⟩
      obtain ⟨h2, ec⟩ := case_eq hb
      refine ⟨[.pu (.fzl (ns.map .int)), x1, x2, x3, x4, .pu (.int (i : Int)), x6, x7], [.pu (.fzl (ns.map .int)), x1, x2, x3, x4, .pu (.int (i : Int)), x6, x7], h2, by simp [rangeD_get], .inl ?_, _, rfl⟩
      generalize D.fzl (ns.map .int) = sc at *
      simp -implicitDefEqProofs [l7b, eb, Sl.ref, eoOf, ec])
  obtain ⟨τ', h', _, g⟩ := key
  refine ⟨τ', h', ?_⟩
  have r1 := rng1 (k := k) (by omega)
  simp -implicitDefEqProofs at g1
  simp -implicitDefEqProofs [l7, g1, g2, r1, g]
theorem law_true : ∀ ns : List Int, ns.length ≤ 63 → ∃ h', F_law [.fzl (ns.map .int)] [] = .ok (.pu (.bl true)) h' := by
  intro ns hn
  obtain ⟨y3, e4⟩ := s4 (.pu (.fzl (ns.map .int))) (.pu (sumD coins)) .em .em .em .em .em []
  obtain ⟨S, ev, hl, e5⟩ := s5 (.pu (.fzl (ns.map .int))) (.pu (sumD coins)) y3 .em .em .em .em []
  have e6 := s6 ev hl (.pu (.fzl (ns.map .int))) (.pu (sumD coins)) (.ow (.lst ((evs 21).map itemD))) y3 .em .em .em []
  obtain ⟨τ', h', e7⟩ := s7 ns hn (.pu (sumD coins)) (.ow (.lst ((evs 21).map itemD))) y3 (.pu (sumD S)) .em .em .em []
  refine ⟨h', ?_⟩
  have e3 : l3 [.pu (.fzl (ns.map .int)), .pu (sumD coins), .em, .em, .em, .em, .em, .em] [] = .nx [.pu (.fzl (ns.map .int)), .pu (sumD coins), .ow (.lst []), .em, .em, .em, .em, .em] [] := by
    simp -implicitDefEqProofs [l3]
  have sJ : ∀ τ, mSeq cJ mNext τ h' = .ret (.pu (.bl true)) h' := fun τ => by simp -implicitDefEqProofs [cJ]
  rw [law_start, law_split, seq_nx (s1 _ _), seq_nx (s2 _ _), seq_nx e3, seq_nx e4, seq_nx e5, seq_nx e6, seq_nx e7, sJ, v_eret]
end K74

open PySem PySem.W PyProof.Rows
set_option maxHeartbeats 0 in
theorem PySem.Challenge.cw_whyanswers_k74_expected_numbers_of_match_holds : PySem.Challenge.rw_whyanswers_k74_expected_numbers_of_match.Holds := by
  w_on; o_law; k_head; (case hw => w_witness2)
  k_fill
  refine L2.walk_of (l := PySem.Challenge.rw_whyanswers_k74_expected_numbers_of_match) (n := 63) (k := 8) (x := "script") (CX := fun w => L2.CX (PySem.Challenge.rw_whyanswers_k74_expected_numbers_of_match).prog w) (sp := fun w => Mp.spLaw _ 63) rfl (by decide) rfl ⟨rfl, by decide, by decide⟩ (fun w h Y => PySem.W.kIn_of Y) ?F (fun _ _ a ns hl hO hS => ⟨a, ns, rfl, hO, hS, hl, fun _ => rfl⟩) (fun _ _ _ _ _ h => Mp.cx_no h)
  case F =>
    intro w mg fa h KX G hmg
    refine' K74.all_mk _ KX G hmg ?a0 ?l0 ?c0 ?k0 ?a1 ?l1 ?c1 ?k1 ?a2 ?l2 ?c2 ?k2 ?a3 ?l3 ?c3 ?k3 ?a4 ?l4 ?c4 ?k4 ?a5 ?l5 ?c5 ?k5 ?a6 ?l6 ?c6 ?k6 ?a7 ?l7 ?c7 ?k7 ?a8 ?l8 ?c8 ?k8 ?a9 ?l9 ?c9 ?k9 ?a10 ?l10 ?c10 ?k10 ?a11 ?l11 ?c11 ?k11 ?a12 ?l12 ?c12 ?k12 ?a13 ?l13 ?c13 ?k13 ?a14 ?l14 ?c14 ?k14 ?a15 ?l15 ?c15 ?k15 ?a16 ?l16 ?c16 ?k16 ?a17 ?l17 ?c17 ?k17 ?a18 ?l18 ?c18 ?k18 ?a19 ?l19 ?c19 ?k19 ?a20 ?l20 ?c20 ?k20 ?a21 ?l21 ?c21 ?k21 ?a22 ?l22 ?c22 ?k22 ?a23 ?l23 ?c23 ?k23 ?a24 ?l24 ?c24 ?k24 ?a25 ?l25 ?c25 ?k25 ?a26 ?l26 ?c26 ?k26 ?z_all ?z_bool ?z_dict ?z_int ?z_isinstance ?z_len ?z_max ?z_min ?z_range ?z_sorted ?z_sum ?z_tuple ?z_zip ?q_MOST_PRODUCTS ?q_MOST_ROWS ?q_MOST_SPREAD ?n_BadTables ?bb_BadTables ?tt_BadTables ?ii_BadTables ?n_BadQuestion ?bb_BadQuestion ?tt_BadQuestion ?ii_BadQuestion ?n_BadSum ?xx_BadSum ?kk_BadSum ?bb_BadSum ?tt_BadSum ?ii_BadSum ?n_BadPaper ?bb_BadPaper ?tt_BadPaper ?ii_BadPaper ?n_NoSuch ?xx_NoSuch ?kk_NoSuch ?bb_NoSuch ?tt_NoSuch ?ii_NoSuch ?n_TooFar ?xx_TooFar ?kk_TooFar ?bb_TooFar ?tt_TooFar ?ii_TooFar ?ss_BadSum_TooFar ?ss_BadSum_NoSuch ?ss_BadSum_BadPaper ?ss_BadSum_BadSum ?ss_BadSum_BadQuestion ?ss_BadSum_BadTables ?ss_NoSuch_TooFar ?ss_NoSuch_NoSuch ?ss_NoSuch_BadPaper ?ss_NoSuch_BadSum ?ss_NoSuch_BadQuestion ?ss_NoSuch_BadTables ?ss_TooFar_TooFar ?ss_TooFar_NoSuch ?ss_TooFar_BadPaper ?ss_TooFar_BadSum ?ss_TooFar_BadQuestion ?ss_TooFar_BadTables K74.law_true
    (case a0 => k_is)
    (case l0 => k_is)
    (case c0 => k_is)
    (case k0 => k_is)
    (case a1 => k_is)
    (case l1 => k_is)
    (case c1 => k_is)
    (case k1 => k_is)
    (case a2 => k_is)
    (case l2 => k_is)
    (case c2 => k_is)
    (case k2 => k_is)
    (case a3 => k_is)
    (case l3 => k_is)
    (case c3 => k_is)
    (case k3 => k_is)
    (case a4 => k_is)
    (case l4 => k_is)
    (case c4 => k_is)
    (case k4 => k_is)
    (case a5 => k_is)
    (case l5 => k_is)
    (case c5 => k_is)
    (case k5 => k_is)
    (case a6 => k_is)
    (case l6 => k_is)
    (case c6 => k_is)
    (case k6 => k_is)
    (case a7 => k_is)
    (case l7 => k_is)
    (case c7 => k_is)
    (case k7 => k_is)
    (case a8 => k_is)
    (case l8 => k_is)
    (case c8 => k_is)
    (case k8 => k_is)
    (case a9 => k_is)
    (case l9 => k_is)
    (case c9 => k_is)
    (case k9 => k_is)
    (case a10 => k_is)
    (case l10 => k_is)
    (case c10 => k_is)
    (case k10 => k_is)
    (case a11 => k_is)
    (case l11 => k_is)
    (case c11 => k_is)
    (case k11 => k_is)
    (case a12 => k_is)
    (case l12 => k_is)
    (case c12 => k_is)
    (case k12 => k_is)
    (case a13 => k_is)
    (case l13 => k_is)
    (case c13 => k_is)
    (case k13 => k_is)
    (case a14 => k_is)
    (case l14 => k_is)
    (case c14 => k_is)
    (case k14 => k_is)
    (case a15 => k_is)
    (case l15 => k_is)
    (case c15 => k_is)
    (case k15 => k_is)
    (case a16 => k_is)
    (case l16 => k_is)
    (case c16 => k_is)
    (case k16 => k_is)
    (case a17 => k_is)
    (case l17 => k_is)
    (case c17 => k_is)
    (case k17 => k_is)
    (case a18 => k_is)
    (case l18 => k_is)
    (case c18 => k_is)
    (case k18 => k_is)
    (case a19 => k_is)
    (case l19 => k_is)
    (case c19 => k_is)
    (case k19 => k_is)
    (case a20 => k_is)
    (case l20 => k_is)
    (case c20 => k_is)
    (case k20 => k_is)
    (case a21 => k_is)
    (case l21 => k_is)
    (case c21 => k_is)
    (case k21 => k_is)
    (case a22 => k_is)
    (case l22 => k_is)
    (case c22 => k_is)
    (case k22 => k_is)
    (case a23 => k_is)
    (case l23 => k_is)
    (case c23 => k_is)
    (case k23 => k_is)
    (case a24 => k_is)
    (case l24 => k_is)
    (case c24 => k_is)
    (case k24 => k_is)
    (case a25 => k_is)
    (case l25 => k_is)
    (case c25 => k_is)
    (case k25 => k_is)
    (case a26 => k_is)
    (case l26 => k_is)
    (case c26 => k_is)
    (case k26 => k_is)
    (case z_all => k_is)
    (case z_bool => k_is)
    (case z_dict => k_is)
    (case z_int => k_is)
    (case z_isinstance => k_is)
    (case z_len => k_is)
    (case z_max => k_is)
    (case z_min => k_is)
    (case z_range => k_is)
    (case z_sorted => k_is)
    (case z_sum => k_is)
    (case z_tuple => k_is)
    (case z_zip => k_is)
    (case q_MOST_PRODUCTS => k_is)
    (case q_MOST_ROWS => k_is)
    (case q_MOST_SPREAD => k_is)
    (case n_BadTables => k_is)
    (case bb_BadTables => k_is)
    (case tt_BadTables => k_is)
    (case ii_BadTables => k_is)
    (case n_BadQuestion => k_is)
    (case bb_BadQuestion => k_is)
    (case tt_BadQuestion => k_is)
    (case ii_BadQuestion => k_is)
    (case n_BadSum => k_is)
    (case xx_BadSum => k_exc)
    (case kk_BadSum => k_is)
    (case bb_BadSum => k_is)
    (case tt_BadSum => k_is)
    (case ii_BadSum => k_is)
    (case n_BadPaper => k_is)
    (case bb_BadPaper => k_is)
    (case tt_BadPaper => k_is)
    (case ii_BadPaper => k_is)
    (case n_NoSuch => k_is)
    (case xx_NoSuch => k_exc)
    (case kk_NoSuch => k_is)
    (case bb_NoSuch => k_is)
    (case tt_NoSuch => k_is)
    (case ii_NoSuch => k_is)
    (case n_TooFar => k_is)
    (case xx_TooFar => k_exc)
    (case kk_TooFar => k_is)
    (case bb_TooFar => k_is)
    (case tt_TooFar => k_is)
    (case ii_TooFar => k_is)
    (case ss_BadSum_TooFar => first | rfl | k_is)
    (case ss_BadSum_NoSuch => first | rfl | k_is)
    (case ss_BadSum_BadPaper => first | rfl | k_is)
    (case ss_BadSum_BadSum => first | rfl | k_is)
    (case ss_BadSum_BadQuestion => first | rfl | k_is)
    (case ss_BadSum_BadTables => first | rfl | k_is)
    (case ss_NoSuch_TooFar => first | rfl | k_is)
    (case ss_NoSuch_NoSuch => first | rfl | k_is)
    (case ss_NoSuch_BadPaper => first | rfl | k_is)
    (case ss_NoSuch_BadSum => first | rfl | k_is)
    (case ss_NoSuch_BadQuestion => first | rfl | k_is)
    (case ss_NoSuch_BadTables => first | rfl | k_is)
    (case ss_TooFar_TooFar => first | rfl | k_is)
    (case ss_TooFar_NoSuch => first | rfl | k_is)
    (case ss_TooFar_BadPaper => first | rfl | k_is)
    (case ss_TooFar_BadSum => first | rfl | k_is)
    (case ss_TooFar_BadQuestion => first | rfl | k_is)
    (case ss_TooFar_BadTables => first | rfl | k_is)

