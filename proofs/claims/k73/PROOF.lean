import PyProof.Rows.All
import Wide.All
import OpenK.AllK
import Wide.FinOn
import HandS.ForMost
import HandS.ForExc
import HandS.Lambda
import HandS.HeadHook4
import HandS.HeadWalk
import HandS.TryMany
import HandS.WrittenGet
import HandS.RaiseMore
import HandS.DictTup
import HandS.TupAny
import HandS.TupMul
import HandS.TupLen
import HandS.Conv
import HandS.ListItems
import HandS.SortOrd
import HandS.IsInst
import HandS.Wide
import HandS.DeepEq
import HandS.Style
import KE.GoesMore
import KE.GoesEnum
import KE.KRevSl
import PyProof.ReprRoads
import KE.KEqNest
import PyProof.ReprLen
import HandS.Head2
import HandS.HeadEnd
import HandS.NestedK
import PySem.Challenge.RW_firstgap_k73_whole_types_and_numbers_of
set_option Elab.async false
set_option linter.all false
set_option maxRecDepth 100000
set_option maxHeartbeats 0
/-! DL1: deep values, the store, the judgements over HandS's readings. -/
namespace DL
open PySem PySem.Spec L2

/-- a deep value: tuples by value; mutable objects, defs, classes by address; the script as a frozen list -/
inductive D where
  | non
  | bl (b : Bool)
  | int (i : Int)
  | str (x : Str)
  | ty (n : String)
  | ref (a : Addr)
  | tup (ds : List D)
  | scr (ds : List D)
/-- a mutable object -/
inductive O where
  | lst (ds : List D)
  | dK (kvs : List (Key × D))
  | dT (kvs : List (List Key × D))
  | ins (C : Addr) (fs : List (Str × D))
abbrev Stt := Addr → Option O
def put (st : Stt) (a : Addr) (o : O) : Stt := fun b => if b = a then some o else st b
theorem put_same {st : Stt} {a : Addr} {o : O} : put st a o a = some o := if_pos rfl
theorem put_ne {st : Stt} {a b : Addr} {o : O} (h : b ≠ a) : put st a o b = st b := if_neg h
theorem put_put {st : Stt} {a : Addr} {o u : O} : put (put st a o) a u = put st a u := by
  funext b; unfold put; split <;> rfl
theorem neq_of {st : Stt} {a b : Addr} {o : O} (h : st a = some o) (h' : st b = none) : a ≠ b := by
  intro e; subst e; rw [h] at h'; cases h'

mutual
inductive Rep (K : PySem.W.Frag) (H : Hp) : D → V → Prop
  | non : Rep K H .non .non
  | bl {b : Bool} : Rep K H (.bl b) (.bl b)
  | int {i : Int} : Rep K H (.int i) (.int i)
  | str {x : Str} : Rep K H (.str x) (.str x)
  | ty {n : String} : Rep K H (.ty n) (.ty n)
  | ref {a : Addr} : Rep K H (.ref a) (.ref a)
  | tup {a : Addr} {ds : List D} {vs : List V} : H a = some (.tup vs) → Reps K H ds vs → Rep K H (.tup ds) (.ref a)
  | scr {a : Addr} {ds : List D} {vs : List V} : ((∃ o, H a = some (.frz o (.lst vs))) ∨ ∀ H', SqL K H' a vs) → Reps K H ds vs → Rep K H (.scr ds) (.ref a)
inductive Reps (K : PySem.W.Frag) (H : Hp) : List D → List V → Prop
  | nil : Reps K H [] []
  | cons {d : D} {v : V} {ds : List D} {vs : List V} : Rep K H d v → Reps K H ds vs → Reps K H (d :: ds) (v :: vs)
end

/-- tuples and locked things stay -/
structure Le (H H' : Hp) : Prop where
  tup : ∀ a xs, H a = some (.tup xs) → H' a = some (.tup xs)
  frz : ∀ a o u, H a = some (.frz o u) → H' a = some (.frz o u)
theorem Le.refl {H : Hp} : Le H H := ⟨fun _ _ h => h, fun _ _ _ h => h⟩
theorem Le.trans {H H1 H2 : Hp} (a : Le H H1) (b : Le H1 H2) : Le H H2 := ⟨fun c xs h => b.tup c xs (a.tup c xs h), fun c o u h => b.frz c o u (a.frz c o u h)⟩
section
variable {K : PySem.W.Frag} {H H' : Hp}
theorem Le.sqT (l : Le H H') {a : Addr} {vs : List V} (h : SqT K H a vs) : SqT K H' a vs := by
  rcases h with (h | ⟨o, h⟩) | h
  · exact .inl (.inl (l.tup _ _ h))
  · exact .inl (.inr ⟨o, l.frz _ _ _ h⟩)
  · exact .inr h
mutual
theorem Rep.mono (l : Le H H') : ∀ {d : D} {v : V}, Rep K H d v → Rep K H' d v
  | _, _, .non => .non
  | _, _, .bl => .bl
  | _, _, .int => .int
  | _, _, .str => .str
  | _, _, .ty => .ty
  | _, _, .ref => .ref
  | _, _, .tup h r => .tup (l.tup _ _ h) (Reps.mono l r)
  | _, _, .scr h r => .scr (h.elim (fun ⟨o, q⟩ => .inl ⟨o, l.frz _ _ _ q⟩) .inr) (Reps.mono l r)
theorem Reps.mono (l : Le H H') : ∀ {ds : List D} {vs : List V}, Reps K H ds vs → Reps K H' ds vs
  | _, _, .nil => .nil
  | _, _, .cons a b => .cons (Rep.mono l a) (Reps.mono l b)
end
theorem Reps.length : ∀ {ds : List D} {vs : List V}, Reps K H ds vs → ds.length = vs.length
  | _, _, .nil => rfl
  | _, _, .cons _ b => by rw [List.length_cons, List.length_cons, Reps.length b]
theorem Reps.append : ∀ {ds es : List D} {vs us : List V}, Reps K H ds vs → Reps K H es us → Reps K H (ds ++ es) (vs ++ us)
  | _, _, _, _, .nil, r => r
  | _, _, _, _, .cons a b, r => .cons a (Reps.append b r)
theorem Reps.get : ∀ {ds : List D} {vs : List V} {i : Nat} {d : D}, Reps K H ds vs → ds[i]? = some d → ∃ v, vs[i]? = some v ∧ Rep K H d v
  | _, _, _, _, .nil, h => by simp at h
  | _, _, 0, _, .cons a _, h => ⟨_, rfl, by simp at h; rw [← h]; exact a⟩
  | _, _, i + 1, _, .cons _ b, h => by
    obtain ⟨v, e, r⟩ := Reps.get (i := i) b (by simpa using h)
    exact ⟨v, by simpa using e, r⟩
theorem Reps.getV : ∀ {ds : List D} {vs : List V} {i : Nat} {v : V}, Reps K H ds vs → vs[i]? = some v → ∃ d, ds[i]? = some d ∧ Rep K H d v
  | _, _, _, _, .nil, h => by simp at h
  | _, _, 0, _, .cons a _, h => ⟨_, rfl, by simp at h; rw [← h]; exact a⟩
  | _, _, i + 1, _, .cons _ b, h => by
    obtain ⟨v, e, r⟩ := Reps.getV (i := i) b (by simpa using h)
    exact ⟨v, by simpa using e, r⟩
theorem Reps.take : ∀ {ds : List D} {vs : List V} (n : Nat), Reps K H ds vs → Reps K H (ds.take n) (vs.take n)
  | _, _, 0, _ => .nil
  | _, _, _ + 1, .nil => .nil
  | _, _, n + 1, .cons a b => .cons a (Reps.take n b)
theorem Reps.drop : ∀ {ds : List D} {vs : List V} (n : Nat), Reps K H ds vs → Reps K H (ds.drop n) (vs.drop n)
  | _, _, 0, r => r
  | _, _, _ + 1, .nil => .nil
  | _, _, n + 1, .cons _ b => Reps.drop n b
theorem Reps.reverse : ∀ {ds : List D} {vs : List V}, Reps K H ds vs → Reps K H ds.reverse vs.reverse
  | _, _, .nil => .nil
  | _, _, .cons a b => by
    rw [List.reverse_cons, List.reverse_cons]
    exact Reps.append (Reps.reverse b) (.cons a .nil)
theorem Reps.set : ∀ {ds : List D} {vs : List V} {d : D} {v : V} (i : Nat), Reps K H ds vs → Rep K H d v → Reps K H (ds.set i d) (vs.set i v)
  | _, _, _, _, _, .nil, _ => .nil
  | _, _, _, _, 0, .cons _ b, r => .cons r b
  | _, _, _, _, i + 1, .cons a b, r => .cons a (Reps.set i b r)
theorem Reps.eraseIdx : ∀ {ds : List D} {vs : List V} (i : Nat), Reps K H ds vs → Reps K H (ds.eraseIdx i) (vs.eraseIdx i)
  | _, _, _, .nil => .nil
  | _, _, 0, .cons _ b => b
  | _, _, i + 1, .cons a b => .cons a (Reps.eraseIdx i b)
theorem Reps.ints : ∀ {ns : List Int}, Reps K H (ns.map D.int) (ns.map V.int)
  | [] => .nil
  | _ :: _ => .cons .int Reps.ints
end

/-- keyed values -/
def KR {κ : Type} (K : PySem.W.Frag) (H : Hp) (a : List (κ × D)) (b : List (κ × V)) : Prop := a.map (·.1) = b.map (·.1) ∧ Reps K H (a.map (·.2)) (b.map (·.2))
def ORep (K : PySem.W.Frag) (H : Hp) (a : Addr) : O → Prop
  | .lst ds => ∃ vs, H a = some (.lst vs) ∧ Reps K H ds vs
  | .dK kvs => ∃ kvs', H a = some (.dK kvs') ∧ KR K H kvs kvs'
  | .dT kvs => ∃ kvs', H a = some (.dT kvs') ∧ KR K H kvs kvs'
  | .ins C fs => ∃ dx fs', H a = some (.ins C dx fs') ∧ KR K H fs fs'
/-- what is fixed: the written part, the tables of code objects, the heap at the entry -/
structure GC where
  T : List (Addr × Str)
  H0 : Hp
structure SR (K : PySem.W.Frag) (T : List (Addr × Str)) (st : Stt) (H : Hp) : Prop where
  obj : ∀ a o, st a = some o → ORep K H a o
  tab : LamX.Tabs T H
/-- what a store writes: a new address, or a mutable object -/
def MutD : Option HO → Prop
  | none => True
  | some (.lst _) => True
  | some (.dK _) => True
  | some (.dT _) => True
  | some (.ins _ _ _) => True
  | _ => False
section
variable {K : PySem.W.Frag} {T : List (Addr × Str)} {st : Stt} {H H' : Hp}
theorem ORep.some {a : Addr} {o : O} (h : ORep K H a o) : ∃ u, H a = some u ∧ MutD (some u) := by
  cases o with
  | lst ds => obtain ⟨_, e, _⟩ := h; exact ⟨_, e, trivial⟩
  | dK ds => obtain ⟨_, e, _⟩ := h; exact ⟨_, e, trivial⟩
  | dT ds => obtain ⟨_, e, _⟩ := h; exact ⟨_, e, trivial⟩
  | ins C ds => obtain ⟨_, _, e, _⟩ := h; exact ⟨_, e, trivial⟩
theorem KR.mono {κ : Type} (l : Le H H') {a : List (κ × D)} {b : List (κ × V)} (h : KR K H a b) : KR K H' a b := ⟨h.1, h.2.mono l⟩
theorem ORep.stay (l : Le H H') {a : Addr} {o : O} (e : H' a = H a) (h : ORep K H a o) : ORep K H' a o := by
  cases o with
  | lst ds => obtain ⟨vs, q, r⟩ := h; exact ⟨vs, e.trans q, r.mono l⟩
  | dK ds => obtain ⟨vs, q, r⟩ := h; exact ⟨vs, e.trans q, r.mono l⟩
  | dT ds => obtain ⟨vs, q, r⟩ := h; exact ⟨vs, e.trans q, r.mono l⟩
  | ins C ds => obtain ⟨dx, vs, q, r⟩ := h; exact ⟨dx, vs, e.trans q, r.mono l⟩
theorem SR.free (S : SR K T st H) {p : Addr} (h : H p = none) : st p = none := by
  cases e : st p with
  | none => rfl
  | some o =>
    obtain ⟨u, q, _⟩ := (S.obj p o e).some
    rw [h] at q; cases q
theorem le_upd {a : Addr} {o : HO} (m : MutD (H a)) : Le H (upd H a o) :=
  ⟨fun b xs h => by
    rw [upd_ne (fun e => by subst e; rw [h] at m; exact m)]; exact h,
   fun b xs u h => by
    rw [upd_ne (fun e => by subst e; rw [h] at m; exact m)]; exact h⟩
theorem Tabs.stay {a : Addr} {o : HO} (t : LamX.Tabs T H) (m : MutD (H a)) : LamX.Tabs T (upd H a o) := fun p hp => by
  obtain ⟨ps, h1, h2, h3⟩ := t p hp
  refine ⟨ps, ?_, h2, fun pos cv hc => ?_⟩
  · rw [upd_ne (fun e => by rw [← e, h1] at m; exact m)]; exact h1
  · obtain ⟨c, e1, e2⟩ := h3 pos cv hc
    refine ⟨c, e1, ?_⟩
    rw [upd_ne (fun e => by rw [← e, e2] at m; exact m)]; exact e2
/-- an object is new, or written -/
theorem SR.put (S : SR K T st H) {a : Addr} {o : HO} {od : O} (m : MutD (H a)) (h : ORep K (upd H a o) a od) : SR K T (put st a od) (upd H a o) where
  obj := fun b ob e => by
    by_cases hb : b = a
    · subst hb; rw [put_same] at e; cases e; exact h
    · rw [put_ne hb] at e
      exact (S.obj b ob e).stay (le_upd m) (upd_ne hb)
  tab := Tabs.stay S.tab m
/-- an object that the store does not tell is new -/
theorem SR.laid (S : SR K T st H) {a : Addr} {o : HO} (h : H a = none) : SR K T st (upd H a o) where
  obj := fun b ob e => by
    have hb : b ≠ a := fun z => by
      rw [z] at e
      rw [S.free h] at e; cases e
    exact (S.obj b ob e).stay (le_upd (by rw [h]; trivial)) (upd_ne hb)
  tab := Tabs.stay S.tab (by rw [h]; trivial)
theorem Le.new {p : Addr} {o : HO} (h : H p = none) : Le H (upd H p o) := le_upd (by rw [h]; trivial)
end

/-! ### judgements -/
abbrev DEnv := List (Option D)
abbrev DQ := D → Stt → Prop
abbrev DE := DEnv → Stt → DQ → Prop
abbrev DT := DEnv → Stt → (Bool → Stt → Prop) → Prop
abbrev DA := DEnv → Stt → (List D → Stt → Prop) → Prop
structure DN where
  nx : DEnv → Stt → Prop
  rt : DQ
  bk : DEnv → Stt → Prop := fun _ _ => False
  ct : DEnv → Stt → Prop := fun _ _ => False
abbrev DS := DN → DEnv → Stt → Prop
/-- an exception: its class, its fields -/
structure Exc where
  cls : Addr
  pay : List (Str × D)
abbrev DX := Exc → Stt → Prop

structure ER (K : PySem.W.Frag) (H : Hp) (δ : DEnv) (σ : L2.St) : Prop where
  len : δ.length = σ.length
  at_ : ∀ (i : Nat) (d : D), δ[i]? = some (some d) → ∃ v, σ[i]? = some (some v) ∧ Rep K H d v
structure Cfg (K : PySem.W.Frag) (g : GC) (δ : DEnv) (st : Stt) (σ : L2.St) (H : Hp) : Prop where
  le : Le g.H0 H
  env : ER K H δ σ
  sr : SR K g.T st H
section
variable {K : PySem.W.Frag} {g : GC} {δ : DEnv} {st st' : Stt} {σ : L2.St} {H H' : Hp}
theorem ER.mono (l : Le H H') (e : ER K H δ σ) : ER K H' δ σ := ⟨e.len, fun i d h => let ⟨v, q, r⟩ := e.at_ i d h; ⟨v, q, r.mono l⟩⟩
theorem Cfg.go (c : Cfg K g δ st σ H) (l : Le H H') (s : SR K g.T st' H') : Cfg K g δ st' σ H' := ⟨c.le.trans l, c.env.mono l, s⟩
theorem ER.set (e : ER K H δ σ) {d : D} {v : V} (i : Nat) (r : Rep K H d v) : ER K H (δ.set i (some d)) (σ.set i (some v)) := by
  refine ⟨by simp [e.len], fun j d' h => ?_⟩
  by_cases hj : i = j
  · subst hj
    by_cases hl : i < δ.length
    · rw [List.getElem?_set_self hl] at h
      cases h
      exact ⟨v, by rw [List.getElem?_set_self (by rw [← e.len]; exact hl)], r⟩
    · rw [List.getElem?_eq_none (by simpa using Nat.le_of_not_lt hl)] at h
      cases h
  · rw [List.getElem?_set_ne hj] at h ⊢
    exact e.at_ j d' h
theorem Cfg.set (c : Cfg K g δ st σ H) {d : D} {v : V} (i : Nat) (r : Rep K H d v) : Cfg K g (δ.set i (some d)) st (σ.set i (some v)) H := ⟨c.le, c.env.set i r, c.sr⟩
end
def lft (K : PySem.W.Frag) (g : GC) (t : DE) : TE := fun σ H Q => ∃ δ st q, Cfg K g δ st σ H ∧ t δ st q ∧ ∀ d st' v H', Le H H' → Rep K H' d v → SR K g.T st' H' → q d st' → Q v H'
def lftT (K : PySem.W.Frag) (g : GC) (t : DT) : TT := fun σ H Q => ∃ δ st q, Cfg K g δ st σ H ∧ t δ st q ∧ ∀ b st' H', Le H H' → SR K g.T st' H' → q b st' → Q b H'
def lftA (K : PySem.W.Frag) (g : GC) (t : DA) : TA := fun σ H Q => ∃ δ st q, Cfg K g δ st σ H ∧ t δ st q ∧ ∀ ds st' vs H', Le H H' → Reps K H' ds vs → SR K g.T st' H' → q ds st' → Q vs H'
structure LN (K : PySem.W.Frag) (g : GC) (H : Hp) (N : DN) (E : Ends) : Prop where
  nx : ∀ δ st σ H', Le H H' → Cfg K g δ st σ H' → N.nx δ st → E.nx σ H'
  rt : ∀ d st v H', Le H H' → Le g.H0 H' → Rep K H' d v → SR K g.T st H' → N.rt d st → E.rt v H'
  bk : ∀ δ st σ H', Le H H' → Cfg K g δ st σ H' → N.bk δ st → E.bk σ H'
  ct : ∀ δ st σ H', Le H H' → Cfg K g δ st σ H' → N.ct δ st → E.ct σ H'
theorem LN.go {K : PySem.W.Frag} {g : GC} {H H1 : Hp} {N : DN} {E : Ends} (n : LN K g H N E) (l : Le H H1) : LN K g H1 N E :=
  ⟨fun δ st σ H' a => n.nx δ st σ H' (l.trans a), fun d st v H' a => n.rt d st v H' (l.trans a), fun δ st σ H' a => n.bk δ st σ H' (l.trans a), fun δ st σ H' a => n.ct δ st σ H' (l.trans a)⟩
def lftS (K : PySem.W.Frag) (g : GC) (t : DS) : TS := fun E σ H => ∃ δ st N, Cfg K g δ st σ H ∧ t N δ st ∧ LN K g H N E

abbrev PD (X : Cx) (g : GC) (e : Expr) (t : DE) : Prop := PE X e (lft X.K g t)
abbrev PDT (X : Cx) (g : GC) (e : Expr) (t : DT) : Prop := PT X e (lftT X.K g t)
abbrev PDW (X : Cx) (g : GC) (e : Expr) (t : DT) : Prop := PW X e (lftT X.K g t)
abbrev PDA (X : Cx) (g : GC) (es : List Expr) (t : DA) : Prop := PA X es (lftA X.K g t)
abbrev PDS (X : Cx) (g : GC) (s : Stmt) (t : DS) : Prop := PS X s (lftS X.K g t)
abbrev PDSs (X : Cx) (g : GC) (s : List Stmt) (t : DS) : Prop := PSs X s (lftS X.K g t)

theorem PE.imp {X : Cx} {e : Expr} {t t' : TE} (h : PE X e t) (i : ∀ σ H Q, t' σ H Q → t σ H Q) : PE X e t' := ⟨fun pins s σ H Q I q => h.run pins s σ H Q I (i σ H Q q)⟩
theorem PT.imp {X : Cx} {e : Expr} {t t' : TT} (h : PT X e t) (i : ∀ σ H Q, t' σ H Q → t σ H Q) : PT X e t' := ⟨fun pins s σ H Q I q => h.run pins s σ H Q I (i σ H Q q)⟩
theorem PW.imp {X : Cx} {e : Expr} {t t' : TT} (h : PW X e t) (i : ∀ σ H Q, t' σ H Q → t σ H Q) : PW X e t' := ⟨fun w pins s σ H Q I q => h.run w pins s σ H Q I (i σ H Q q)⟩
theorem PA.imp {X : Cx} {e : List Expr} {t t' : TA} (h : PA X e t) (i : ∀ σ H Q, t' σ H Q → t σ H Q) : PA X e t' := ⟨fun p pins s σ H Q I q => h.run p pins s σ H Q I (i σ H Q q)⟩
theorem PS.imp {X : Cx} {e : Stmt} {t t' : TS} (h : PS X e t) (i : ∀ E σ H, t' E σ H → t E σ H) : PS X e t' := ⟨fun pins s σ H Q I q => h.run pins s σ H Q I (i Q σ H q)⟩
theorem PSs.imp {X : Cx} {e : List Stmt} {t t' : TS} (h : PSs X e t) (i : ∀ E σ H, t' E σ H → t E σ H) : PSs X e t' := ⟨fun pins s σ H Q I q => h.run pins s σ H Q I (i Q σ H q)⟩

/-- one expression, then what follows -/
theorem lb {K : PySem.W.Frag} {g : GC} {t : DE} {δ : DEnv} {st : Stt} {q : DQ} {σ : L2.St} {H : Hp} {k : VK} (c : Cfg K g δ st σ H) (h : t δ st q) (hk : ∀ d st' v H', Le H H' → Rep K H' d v → Cfg K g δ st' σ H' → q d st' → k v H') : lft K g t σ H k :=
  ⟨δ, st, q, c, h, fun d st' v H' l r s z => hk d st' v H' l r (c.go l s) z⟩
theorem lbT {K : PySem.W.Frag} {g : GC} {t : DT} {δ : DEnv} {st : Stt} {q : Bool → Stt → Prop} {σ : L2.St} {H : Hp} {k : Bool → Hp → Prop} (c : Cfg K g δ st σ H) (h : t δ st q) (hk : ∀ d st' H', Le H H' → Cfg K g δ st' σ H' → q d st' → k d H') : lftT K g t σ H k :=
  ⟨δ, st, q, c, h, fun d st' H' l s z => hk d st' H' l (c.go l s) z⟩
theorem lbA {K : PySem.W.Frag} {g : GC} {t : DA} {δ : DEnv} {st : Stt} {q : List D → Stt → Prop} {σ : L2.St} {H : Hp} {k : List V → Hp → Prop} (c : Cfg K g δ st σ H) (h : t δ st q) (hk : ∀ d st' v H', Le H H' → Reps K H' d v → Cfg K g δ st' σ H' → q d st' → k v H') : lftA K g t σ H k :=
  ⟨δ, st, q, c, h, fun d st' v H' l r s z => hk d st' v H' l r (c.go l s) z⟩

/-! ### operations by values -/
abbrev O1 := D → Stt → DQ → Prop
abbrev O2 := D → D → Stt → DQ → Prop
abbrev ON := List D → Stt → DQ → Prop
/-- what a rule at the level of V hands on -/
def Kq (K : PySem.W.Frag) (T : List (Addr × Str)) (H : Hp) (q : DQ) (Q : VK) : Prop := ∀ d st v H', Le H H' → Rep K H' d v → SR K T st H' → q d st → Q v H'
theorem Kq.here {K : PySem.W.Frag} {T : List (Addr × Str)} {H : Hp} {q : DQ} {Q : VK} {st : Stt} {d : D} {v : V} (k : Kq K T H q Q) (s : SR K T st H) (r : Rep K H d v) (h : q d st) : Q v H := k d st v H Le.refl r s h
/-- a new tuple -/
theorem Kq.tup {K : PySem.W.Frag} {T : List (Addr × Str)} {H : Hp} {q : DQ} {Q : VK} {st : Stt} {ds : List D} {vs : List V} (k : Kq K T H q Q) (s : SR K T st H) (r : Reps K H ds vs) (h : q (.tup ds) st) {p : Addr} (n : H p = none) : Q (.ref p) (upd H p (.tup vs)) :=
  k _ st _ _ (Le.new n) (.tup upd_same (r.mono (Le.new n))) (s.laid n) h
/-- a new list -/
theorem Kq.lst {K : PySem.W.Frag} {T : List (Addr × Str)} {H : Hp} {q : DQ} {Q : VK} {st : Stt} {ds : List D} {vs : List V} (k : Kq K T H q Q) (s : SR K T st H) (r : Reps K H ds vs) (h : ∀ p, st p = none → q (.ref p) (put st p (.lst ds))) {p : Addr} (n : H p = none) : Q (.ref p) (upd H p (.lst vs)) :=
  k _ _ _ _ (Le.new n) .ref (s.put (od := .lst ds) (by rw [n]; trivial) ⟨vs, upd_same, r.mono (Le.new n)⟩) (h p (s.free n))
def OpD (X : Cx) (g : GC) (f : Value → Value → Sem Value) (o : O2) : Prop :=
  OpR X f fun x y H Q => ∃ a b st q, Rep X.K H a x ∧ Rep X.K H b y ∧ SR X.K g.T st H ∧ o a b st q ∧ Kq X.K g.T H q Q
def UnD (X : Cx) (g : GC) (f : Value → Sem Value) (o : O1) : Prop :=
  UnR X f fun x H Q => ∃ a st q, Rep X.K H a x ∧ SR X.K g.T st H ∧ o a st q ∧ Kq X.K g.T H q Q
def CallD (X : Cx) (g : GC) (f : Value) (o : ON) : Prop :=
  CallR X f fun xs H Q => ∃ ds st q, Reps X.K H ds xs ∧ SR X.K g.T st H ∧ o ds st q ∧ Kq X.K g.T H q Q
theorem OpD.of {X : Cx} {g : GC} {f : Value → Value → Sem Value} {o : O2} (h : ∀ a b x y st H q Q, Rep X.K H a x → Rep X.K H b y → SR X.K g.T st H → o a b st q → Kq X.K g.T H q Q → ∃ r : R2, OpR X f r ∧ r x y H Q) : OpD X g f o := by
  intro pins s σ H x y v u Q I rx ry ⟨a, b, st, q, ra, rb, S, ho, k⟩
  obtain ⟨r, hr, z⟩ := h a b x y st H q Q ra rb S ho k
  exact hr pins s σ H x y v u Q I rx ry z
theorem CallD.of {X : Cx} {g : GC} {f : Value} {o : ON} (h : ∀ ds xs st H q Q, Reps X.K H ds xs → SR X.K g.T st H → o ds st q → Kq X.K g.T H q Q → ∃ r : List V → Hp → VK → Prop, CallR X f r ∧ r xs H Q) : CallD X g f o := by
  intro pins s σ H xs us Q I r ⟨ds, st, q, ra, S, ho, k⟩
  obtain ⟨r', hr, z⟩ := h ds xs st H q Q ra S ho k
  exact hr pins s σ H xs us Q I r z
def dOp (o : O2) (ta tb : DE) : DE := fun δ st q => ta δ st fun x st1 => tb δ st1 fun y st2 => o x y st2 q
def dUn (o : O1) (ta : DE) : DE := fun δ st q => ta δ st fun x st1 => o x st1 q
def dCB (o : ON) (t : DA) : DE := fun δ st q => t δ st fun xs st1 => o xs st1 q
def dVar (i : Nat) : DE := fun δ st q => ∃ d, δ[i]? = some (some d) ∧ q d st
def dC (d : D) : DE := fun _ st q => q d st
def dNil : DA := fun _ st q => q [] st
def dCons (t : DE) (r : DA) : DA := fun δ st q => t δ st fun x st1 => r δ st1 fun xs st2 => q (x :: xs) st2
def dTup (t : DA) : DE := fun δ st q => t δ st fun xs st1 => xs.length ≤ sizeLine ∧ q (.tup xs) st1
def dLst (t : DA) : DE := fun δ st q => t δ st fun xs st1 => xs.length ≤ sizeLine ∧ ∀ p, st1 p = none → q (.ref p) (put st1 p (.lst xs))
section
variable {X : Cx} {g : GC} {a b c e : Expr} {es : List Expr} {ta tb tc te : DE} {t : DA} {pos : Pos} {o o' : O2}
theorem kq_of {K : PySem.W.Frag} {H H' : Hp} {q : DQ} {Q : VK} (l : Le H H') (k : ∀ d st' v H', Le H H' → Rep K H' d v → SR K g.T st' H' → q d st' → Q v H') : Kq K g.T H' q Q := fun d st v H2 l2 r s z => k d st v H2 (l.trans l2) r s z
theorem pd_op {op : Operator} (ho : OpD X g (binaryOp op) o) (ha : PD X g a ta) (hb : PD X g b tb) : PD X g (.BinOp a op b pos) (dOp o ta tb) := by
  refine PE.imp (pe_op ho ha hb) fun σ H Q ⟨δ, st, q, cf, h, k⟩ => ?_
  exact lb cf h fun x st1 v1 H1 l1 r1 c1 h1 => lb c1 h1 fun y st2 v2 H2 l2 r2 c2 h2 => ⟨x, y, st2, q, r1.mono l2, r2, c2.sr, h2, fun d st v H3 l3 r s z => k d st v H3 ((l1.trans l2).trans l3) r s z⟩
theorem pd_cmp {op : CmpOp} (ho : OpD X g (compareOp op) o) (ha : PD X g a ta) (hb : PD X g b tb) (hm : behindInMarks op b = false) : PD X g (.Compare a [op] [b] pos) (dOp o ta tb) := by
  refine PE.imp (pe_cmpR ho ha hb hm) fun σ H Q ⟨δ, st, q, cf, h, k⟩ => ?_
  exact lb cf h fun x st1 v1 H1 l1 r1 c1 h1 => lb c1 h1 fun y st2 v2 H2 l2 r2 c2 h2 => ⟨x, y, st2, q, r1.mono l2, r2, c2.sr, h2, fun d st v H3 l3 r s z => k d st v H3 ((l1.trans l2).trans l3) r s z⟩
/-- a value that is a bool, as a test -/
def dB (t : DE) : DT := fun δ st q => t δ st fun x st1 => ∃ k, x = .bl k ∧ q k st1
theorem pdt_cmp {op : CmpOp} (ho : OpD X g (compareOp op) o) (ha : PD X g a ta) (hb : PD X g b tb) (hm : behindInMarks op b = false) : PDT X g (.Compare a [op] [b] pos) (dB (dOp o ta tb)) := by
  refine PT.imp (pt_cmpR ho ha hb hm) fun σ H Q ⟨δ, st, q, cf, h, k⟩ => ?_
  refine lb cf h fun x st1 v1 H1 l1 r1 c1 h1 => lb c1 h1 fun y st2 v2 H2 l2 r2 c2 h2 => ⟨x, y, st2, _, r1.mono l2, r2, c2.sr, h2, fun d st v H3 l3 r s z => ?_⟩
  obtain ⟨kk, rfl, z⟩ := z
  cases r
  exact ⟨kk, rfl, k kk st H3 ((l1.trans l2).trans l3) s z⟩
/-- a < b < c -/
def dChain (o o' : O2) (ta tb tc : DE) : DE := fun δ st q => ta δ st fun x st1 => tb δ st1 fun y st2 => o x y st2 fun z st3 => ∃ k, z = .bl k ∧ (if k = true then tc δ st3 fun w st4 => o' y w st4 q else q (.bl false) st3)
end
end DL
/-! DL2: names, displays, tests, statements, loops, comprehensions. -/
namespace DL
open PySem PySem.Spec L2
section
variable {X : Cx} {g : GC} {a b c e : Expr} {es : List Expr} {ta tb tc te : DE} {t : DA} {pos : Pos} {o o' : O2}
/-! ### names, constants -/
theorem pd_nm (i : Nat) {x : Str} (hN : X.N[i]? = some x := by rfl) (hv : Vis X.env.scope x := by first | exact .inl rfl | exact .inr (.inl rfl) | exact .inr (.inr rfl)) (hd : (x == ("__debug__" : Str)) = false := by decide) (hcd : (x == ("__classdict__" : Str)) = false := by decide) : PD X g (.Name x pos) (dVar i) :=
  PE.imp (pe_var hN hv hd hcd) fun σ H Q ⟨δ, st, q, cf, ⟨d, e1, h⟩, k⟩ => let ⟨v, e2, r⟩ := cf.env.at_ i d e1; ⟨v, e2, k d st v H Le.refl r cf.sr h⟩
theorem pd_c {v : V} {d : D} (h : PE X e (tC v)) (r : ∀ H, Rep X.K H d v) : PD X g e (dC d) := PE.imp h fun σ H Q ⟨δ, st, q, cf, h, k⟩ => k d st v H Le.refl (r H) cf.sr h
theorem pd_int {i j} : PD X g (.Constant (.int i) j pos) (dC (.int i)) := pd_c pe_int fun _ => .int
theorem pd_bl {i j} : PD X g (.Constant (.bool i) j pos) (dC (.bl i)) := pd_c pe_bl fun _ => .bl
theorem pd_non {j} : PD X g (.Constant .none j pos) (dC .non) := pd_c pe_non fun _ => .non
theorem pd_str {i j} : PD X g (.Constant (.str i) j pos) (dC (.str i)) := pd_c pe_str fun _ => .str
/-- a module's constant -/
theorem pd_gint {x : Str} {i : Int} (hm : ∃ t, X.mg x = some (.int i t)) (hg : Gl X x := by rfl) (hd : (x == ("__debug__" : Str)) = false := by decide) : PD X g (.Name x pos) (dC (.int i)) :=
  let ⟨t, h⟩ := hm; pd_c (v := .int i) (pe_glob hg h ⟨t, rfl⟩ hd) fun _ => .int
theorem pd_gstr {x : Str} {i : Str} (hm : ∃ t, X.mg x = some (.str i t)) (hg : Gl X x := by rfl) (hd : (x == ("__debug__" : Str)) = false := by decide) : PD X g (.Name x pos) (dC (.str i)) :=
  let ⟨t, h⟩ := hm; pd_c (v := .str i) (pe_glob hg h ⟨t, rfl⟩ hd) fun _ => .str
/-- a built-in class as a value -/
theorem pd_bty {x : Str} {n : String} (hm : X.mg x = none) (hv : bootBuiltins x = some (.type n)) (hg : Gl X x := by rfl) (hn : x ≠ "__name__" := by decide) (hd : (x == ("__debug__" : Str)) = false := by decide) : PD X g (.Name x pos) (dC (.ty n)) :=
  pd_c (v := .ty n) (pe_bltn hg hm hv rfl hn hd) fun _ => .ty
/-! ### rows of arguments, displays -/
theorem pda_nil : PDA X g [] dNil := PA.imp pa_nil fun σ H Q ⟨δ, st, q, cf, h, k⟩ => k [] st [] H Le.refl .nil cf.sr h
theorem pda_cons (ha : PD X g e te) (hr : PDA X g es t) (hs : starEach (e :: es) X.env = (false, eval e X.env) :: starEach es X.env := by rfl) : PDA X g (e :: es) (dCons te t) :=
  PA.imp (pa_cons ha hr hs) fun σ H Q ⟨δ, st, q, cf, h, k⟩ => lb cf h fun d1 st1 v1 H1 l1 r1 c1 h1 => lbA c1 h1 fun ds st2 vs H2 l2 r2 c2 h2 =>
    k (d1 :: ds) st2 (v1 :: vs) H2 (l1.trans l2) (.cons (r1.mono l2) r2) c2.sr h2
theorem pd_tup {x1} (h : PDA X g es t) : PD X g (.Tuple es x1 pos) (dTup t) :=
  PE.imp (pe_tup h) fun σ H Q ⟨δ, st, q, cf, h, k⟩ => lbA cf h fun ds st1 vs H1 l1 r1 c1 h1 => ⟨by rw [← r1.length]; exact h1.1, fun p n => Kq.tup (K := X.K) (T := g.T) (q := q) (kq_of l1 k) c1.sr r1 h1.2 n⟩
theorem pd_lst (h : PDA X g es t) : PD X g (.List es pos) (dLst t) :=
  PE.imp (pe_lst h) fun σ H Q ⟨δ, st, q, cf, h, k⟩ => lbA cf h fun ds st1 vs H1 l1 r1 c1 h1 => ⟨by rw [← r1.length]; exact h1.1, fun p n => Kq.lst (K := X.K) (T := g.T) (q := q) (kq_of l1 k) c1.sr r1 h1.2 n⟩
/-! ### operators -/
theorem pd_chain {op op' : CmpOp} (ho : OpD X g (compareOp op) o) (ho' : OpD X g (compareOp op') o') (ha : PD X g a ta) (hb : PD X g b tb) (hc : PD X g c tc)
    (hm : lastMarks [op, op'] [b, c] = false := by with_unfolding_all rfl) : PD X g (.Compare a [op, op'] [b, c] pos) (dChain o o' ta tb tc) := by
  refine PE.imp (pe_chain ho ho' ha hb hc hm) fun σ H Q ⟨δ, st, q, cf, h, k⟩ => ?_
  refine lb cf h fun x st1 v1 H1 l1 r1 c1 h1 => lb c1 h1 fun y st2 v2 H2 l2 r2 c2 h2 => ⟨x, y, st2, _, r1.mono l2, r2, c2.sr, h2, fun d st3 v H3 l3 r3 s3 z => ?_⟩
  obtain ⟨kk, rfl, z⟩ := z
  cases r3
  refine ⟨kk, rfl, ?_⟩
  cases kk with
  | false => exact k _ st3 _ H3 ((l1.trans l2).trans l3) .bl s3 z
  | true =>
    show lft X.K g tc σ H3 _
    exact lb (c2.go l3 s3) z fun w st4 v4 H4 l4 r4 c4 h4 => ⟨y, w, st4, q, r2.mono (l3.trans l4), r4, c4.sr, h4, fun d st v H5 l5 r s z => k d st v H5 ((((l1.trans l2).trans l3).trans l4).trans l5) r s z⟩
theorem pdt_chain {op op' : CmpOp} (ho : OpD X g (compareOp op) o) (ho' : OpD X g (compareOp op') o') (ha : PD X g a ta) (hb : PD X g b tb) (hc : PD X g c tc)
    (hm : lastMarks [op, op'] [b, c] = false := by with_unfolding_all rfl) : PDT X g (.Compare a [op, op'] [b, c] pos) (dB (dChain o o' ta tb tc)) := by
  refine PT.imp (pt_chain ho ho' ha hb hc hm) fun σ H Q ⟨δ, st, q, cf, h, k⟩ => ?_
  refine lb cf h fun x st1 v1 H1 l1 r1 c1 h1 => lb c1 h1 fun y st2 v2 H2 l2 r2 c2 h2 => ⟨x, y, st2, _, r1.mono l2, r2, c2.sr, h2, fun d st3 v H3 l3 r3 s3 z => ?_⟩
  obtain ⟨kk, rfl, z⟩ := z
  cases r3
  refine ⟨kk, rfl, ?_⟩
  cases kk with
  | false =>
    obtain ⟨k2, e2, z2⟩ := z
    cases e2
    exact ⟨false, rfl, k _ st3 H3 ((l1.trans l2).trans l3) s3 z2⟩
  | true =>
    show lft X.K g tc σ H3 _
    refine lb (c2.go l3 s3) z fun w st4 v4 H4 l4 r4 c4 h4 => ⟨y, w, st4, _, r2.mono (l3.trans l4), r4, c4.sr, h4, fun d st v H5 l5 r s z => ?_⟩
    obtain ⟨k2, e2, z2⟩ := z
    subst e2
    cases r
    exact ⟨k2, rfl, k _ st H5 ((((l1.trans l2).trans l3).trans l4).trans l5) s z2⟩
/-! ### tests -/
theorem pdt_val (h : PD X g e te) (he : ∀ whole, isTrue e X.env whole = (do let v ← whole; standAt e.pos; holding [v] (truthy v)) := by intro _; rfl) : PDT X g e (dB te) :=
  PT.imp (pt_val h he) fun σ H Q ⟨δ, st, q, cf, h, k⟩ => lb cf h fun d st1 v H1 l1 r1 c1 ⟨kk, ed, z⟩ => by
    subst ed
    cases r1
    exact ⟨kk, rfl, k _ st1 H1 l1 c1.sr z⟩
def dNot (t : DT) : DT := fun δ st q => t δ st fun b st1 => q (!b) st1
def dAnd (t u : DT) : DT := fun δ st q => t δ st fun b st1 => if b = true then u δ st1 q else q false st1
def dOr (t u : DT) : DT := fun δ st q => t δ st fun b st1 => if b = true then q true st1 else u δ st1 q
variable {tA tB' : DT}
theorem pdt_not (ha : PDT X g a tA) : PDT X g (.UnaryOp .Not a pos) (dNot tA) :=
  PT.imp (pt_not ha) fun σ H Q ⟨δ, st, q, cf, h, k⟩ => lbT cf h fun d st1 H1 l1 c1 z => k _ st1 H1 l1 c1.sr z
theorem pdw_and1 (ha : PDT X g a tA) : PDW X g (.BoolOp .And [a] pos) tA := pw_and1 ha
theorem pdw_or1 (ha : PDT X g a tA) : PDW X g (.BoolOp .Or [a] pos) tA := pw_or1 ha
theorem pdw_and {rest : List Expr} (ha : PDT X g a tA) (hb : PDW X g (.BoolOp .And (b :: rest) pos) tB') : PDW X g (.BoolOp .And (a :: b :: rest) pos) (dAnd tA tB') :=
  PW.imp (pw_and ha hb) fun σ H Q ⟨δ, st, q, cf, h, k⟩ => lbT cf h fun d st1 H1 l1 c1 z => by
    cases d with
    | true => exact lbT c1 z fun d st2 H2 l2 c2 z => k _ st2 H2 (l1.trans l2) c2.sr z
    | false => exact k _ st1 H1 l1 c1.sr z
theorem pdw_or {rest : List Expr} (ha : PDT X g a tA) (hb : PDW X g (.BoolOp .Or (b :: rest) pos) tB') : PDW X g (.BoolOp .Or (a :: b :: rest) pos) (dOr tA tB') :=
  PW.imp (pw_or ha hb) fun σ H Q ⟨δ, st, q, cf, h, k⟩ => lbT cf h fun d st1 H1 l1 c1 z => by
    cases d with
    | false => exact lbT c1 z fun d st2 H2 l2 c2 z => k _ st2 H2 (l1.trans l2) c2.sr z
    | true => exact k _ st1 H1 l1 c1.sr z
theorem PDW.pdt (h : PDW X g e tA) : PDT X g e tA := h.pt
/-! ### and, or, not as values -/
def dAndV (ta tb : DE) : DE := fun δ st q => ta δ st fun x st1 => ∃ c, x = .bl c ∧ if c = true then tb δ st1 q else q (.bl false) st1
def dOrV (ta tb : DE) : DE := fun δ st q => ta δ st fun x st1 => ∃ c, x = .bl c ∧ if c = true then q (.bl true) st1 else tb δ st1 q
def dNotV (ta : DE) : DE := fun δ st q => ta δ st fun x st1 => ∃ c, x = .bl c ∧ q (.bl (!c)) st1
theorem pd_one {op} (h : PD X g a ta) : PD X g (.BoolOp op [a] pos) ta := pe_one h
theorem pd_and {rest : List Expr} (ha : PD X g a ta) (hb : PD X g (.BoolOp .And (b :: rest) pos) tb) : PD X g (.BoolOp .And (a :: b :: rest) pos) (dAndV ta tb) :=
  PE.imp (pe_and ha hb) fun σ H Q ⟨δ, st, q, cf, h, k⟩ => lb cf h fun d st1 v H1 l1 r1 c1 ⟨kk, ed, z⟩ => by
    subst ed
    cases r1
    refine ⟨kk, rfl, ?_⟩
    cases kk with
    | false => exact k _ st1 _ H1 l1 .bl c1.sr z
    | true => exact lb c1 z fun d st2 v H2 l2 r2 c2 z => k _ st2 _ H2 (l1.trans l2) r2 c2.sr z
theorem pd_or {rest : List Expr} (ha : PD X g a ta) (hb : PD X g (.BoolOp .Or (b :: rest) pos) tb) : PD X g (.BoolOp .Or (a :: b :: rest) pos) (dOrV ta tb) :=
  PE.imp (pe_or ha hb) fun σ H Q ⟨δ, st, q, cf, h, k⟩ => lb cf h fun d st1 v H1 l1 r1 c1 ⟨kk, ed, z⟩ => by
    subst ed
    cases r1
    refine ⟨kk, rfl, ?_⟩
    cases kk with
    | true => exact k _ st1 _ H1 l1 .bl c1.sr z
    | false => exact lb c1 z fun d st2 v H2 l2 r2 c2 z => k _ st2 _ H2 (l1.trans l2) r2 c2.sr z
theorem pd_not (ha : PD X g a ta) : PD X g (.UnaryOp .Not a pos) (dNotV ta) :=
  PE.imp (pe_not ha) fun σ H Q ⟨δ, st, q, cf, h, k⟩ => lb cf h fun d st1 v H1 l1 r1 c1 ⟨kk, ed, z⟩ => by
    subst ed
    cases r1
    exact ⟨kk, rfl, k _ st1 _ H1 l1 .bl c1.sr z⟩
def dIf (t : DT) (ta tb : DE) : DE := fun δ st q => t δ st fun c st1 => if c = true then ta δ st1 q else tb δ st1 q
theorem pd_ifExp (hc : PDT X g c tA) (ha : PD X g a ta) (hb : PD X g b tb) : PD X g (.IfExp c a b pos) (dIf tA ta tb) :=
  PE.imp (pe_ifExp hc ha hb) fun σ H Q ⟨δ, st, q, cf, h, k⟩ => lbT cf h fun d st1 H1 l1 c1 z => by
    cases d with
    | true => exact lb c1 z fun d st2 v H2 l2 r2 c2 z => k _ st2 _ H2 (l1.trans l2) r2 c2.sr z
    | false => exact lb c1 z fun d st2 v H2 l2 r2 c2 z => k _ st2 _ H2 (l1.trans l2) r2 c2.sr z
/-! ### calls of built-ins, methods -/
theorem pd_callB {x : Str} {id : String} {n : ON} {p : Pos} (hc : CallD X g (.builtin id) n) (hm : X.mg x = none) (hv : bootBuiltins x = some (.builtin id)) (ha : PDA X g (e :: es) t) (hg : Gl X x := by rfl) (hn : x ≠ "__name__" := by decide) (hdb : (x == ("__debug__" : Str)) = false := by decide)
    (he : starEach (e :: es) X.env = (false, eval e X.env) :: starEach es X.env := by rfl) (hpl : (backTo pos (starEach es X.env)).any (·.1) = false := by rfl) : PD X g (.Call (.Name x p) (e :: es) [] pos) (dCB n t) :=
  PE.imp (pe_callB hc hg hm hv ha hn hdb he hpl) fun σ H Q ⟨δ, st, q, cf, h, k⟩ => lbA cf h fun ds st1 vs H1 l1 r1 c1 z => ⟨ds, st1, q, r1, c1.sr, z, kq_of l1 k⟩
theorem pd_callTy {x : Str} {id : String} {n : ON} {p : Pos} (hc : CallD X g (.type id) n) (hm : X.mg x = none) (hv : bootBuiltins x = some (.type id)) (ha : PDA X g (e :: es) t) (hg : Gl X x := by rfl) (hn : x ≠ "__name__" := by decide) (hdb : (x == ("__debug__" : Str)) = false := by decide)
    (he : starEach (e :: es) X.env = (false, eval e X.env) :: starEach es X.env := by rfl) (hpl : (backTo pos (starEach es X.env)).any (·.1) = false := by rfl) : PD X g (.Call (.Name x p) (e :: es) [] pos) (dCB n t) :=
  PE.imp (pe_callTy hc hg hm hv ha hn hdb he hpl) fun σ H Q ⟨δ, st, q, cf, h, k⟩ => lbA cf h fun ds st1 vs H1 l1 r1 c1 z => ⟨ds, st1, q, r1, c1.sr, z, kq_of l1 k⟩
/-- a method of a built-in type: ty tells whether the receiver is of that type -/
abbrev OM := D → List D → Stt → DQ → Prop
def MtD (X : Cx) (g : GC) (T id : String) (ty : D → Stt → Prop) (m : OM) : Prop :=
  (∀ d v st H, Rep X.K H d v → SR X.K g.T st H → ty d st → tyV X.K T v H) ∧
  MtR X id fun x xs H Q => ∃ d ds st q, Rep X.K H d x ∧ Reps X.K H ds xs ∧ SR X.K g.T st H ∧ m d ds st q ∧ Kq X.K g.T H q Q
def dBM0 (ty : D → Stt → Prop) (m : OM) (to : DE) : DE := fun δ st q => to δ st fun x st1 => ty x st1 ∧ m x [] st1 q
def dBM (ty : D → Stt → Prop) (m : OM) (to : DE) (t : DA) : DE := fun δ st q => to δ st fun x st1 => ty x st1 ∧ t δ st1 fun ds st2 => m x ds st2 q
theorem pd_bm0 {name : Str} {apos cpos : Pos} {T id : String} {ty : D → Stt → Prop} {m : OM} {ob : Expr} {to : DE} (pa : PlainAttrs T) (slot : Slot T name id) (hty : typeOf (.builtin id) = pure (.type "method_descriptor")) (hm : MtD X g T id ty m) (ho : PD X g ob to)
    (hbase : attributeBase ob name X.env (eval ob X.env) = eval ob X.env := by rfl) (hline : (apos.endLine == cpos.line) = true := by rfl) : PD X g (.Call (.Attribute ob name apos) [] [] cpos) (dBM0 ty m to) :=
  PE.imp (pe_bm0 pa slot hty hm.2 ho hbase hline) fun σ H Q ⟨δ, st, q, cf, h, k⟩ => lb cf h fun d st1 v H1 l1 r1 c1 ⟨y, z⟩ => ⟨hm.1 d v st1 H1 r1 c1.sr y, d, [], st1, q, r1, .nil, c1.sr, z, kq_of l1 k⟩
theorem pd_bm {name : Str} {apos cpos : Pos} {T id : String} {ty : D → Stt → Prop} {m : OM} {ob : Expr} {to : DE} (pa : PlainAttrs T) (slot : Slot T name id) (hty : typeOf (.builtin id) = pure (.type "method_descriptor")) (hm : MtD X g T id ty m) (ho : PD X g ob to) (ha : PDA X g (e :: es) t)
    (hbase : attributeBase ob name X.env (eval ob X.env) = eval ob X.env := by rfl)
    (hfew : ((backTo cpos (starEach (e :: es) X.env)).all (fun x => !x.1) && (backToKw cpos (keywordEach [] X.env)).all (fun x => x.1.isSome)
      && decide ((e :: es).length + ([] : List Keyword).length + (if ([] : List Keyword).isEmpty then 0 else 1) < 30)) = true := by rfl)
    (hline : (apos.endLine == cpos.line) = true := by rfl) (hs : starEach (e :: es) X.env = (false, eval e X.env) :: starEach es X.env := by rfl) (hplain : (backTo cpos (starEach es X.env)).any (·.1) = false := by rfl) :
    PD X g (.Call (.Attribute ob name apos) (e :: es) [] cpos) (dBM ty m to t) :=
  PE.imp (pe_bm pa slot hty hm.2 ho ha hbase hfew hline hs hplain) fun σ H Q ⟨δ, st, q, cf, h, k⟩ => lb cf h fun d st1 v H1 l1 r1 c1 ⟨y, z⟩ =>
    ⟨hm.1 d v st1 H1 r1 c1.sr y, lbA c1 z fun ds st2 vs H2 l2 r2 c2 z => ⟨d, ds, st2, q, r1.mono l2, r2, c2.sr, z, kq_of (l1.trans l2) k⟩⟩
/-! ### subscripts -/
def IxD (X : Cx) (g : GC) (o : O2) : Prop := IxR X fun x y H Q => ∃ a b st q, Rep X.K H a x ∧ Rep X.K H b y ∧ SR X.K g.T st H ∧ o a b st q ∧ Kq X.K g.T H q Q
theorem IxD.of {o : O2} (h : ∀ a b x y st H q Q, Rep X.K H a x → Rep X.K H b y → SR X.K g.T st H → o a b st q → Kq X.K g.T H q Q → ∃ r : R2, IxR X r ∧ r x y H Q) : IxD X g o := by
  intro value slice pins s σ H x y v u Q I rx ry ⟨a, b, st, q, ra, rb, S, ho, k⟩ hs
  obtain ⟨r, hr, z⟩ := h a b x y st H q Q ra rb S ho k
  exact hr value slice pins s σ H x y v u Q I rx ry z hs
theorem pd_ix (hr : IxD X g o) (ha : PD X g a ta) (hb : PD X g b tb) (hs : PlainIx b := by exact fun _ _ => rfl) : PD X g (.Subscript a b pos) (dOp o ta tb) :=
  PE.imp (pe_ix hr ha hb hs) fun σ H Q ⟨δ, st, q, cf, h, k⟩ => lb cf h fun x st1 v1 H1 l1 r1 c1 h1 => lb c1 h1 fun y st2 v2 H2 l2 r2 c2 h2 => ⟨x, y, st2, q, r1.mono l2, r2, c2.sr, h2, kq_of (l1.trans l2) k⟩
abbrev OS := D → Option Int → Option Int → Stt → DQ → Prop
def SlD (X : Cx) (g : GC) (o : OS) : Prop := SlR X fun x lo hi H Q => ∃ a st q, Rep X.K H a x ∧ SR X.K g.T st H ∧ o a lo hi st q ∧ Kq X.K g.T H q Q
theorem SlD.of {o : OS} (h : ∀ a x lo hi st H q Q, Rep X.K H a x → SR X.K g.T st H → o a lo hi st q → Kq X.K g.T H q Q → ∃ r, SlR X r ∧ r x lo hi H Q) : SlD X g o := by
  intro pins s σ H x v vl vu lo hi sl Q I rx hs pl pu ⟨a, st, q, ra, S, ho, k⟩
  obtain ⟨r, hr, z⟩ := h a x lo hi st H q Q ra S ho k
  exact hr pins s σ H x v vl vu lo hi sl Q I rx hs pl pu z
abbrev DO := DEnv → Stt → (Option Int → Stt → Prop) → Prop
def lftO (K : PySem.W.Frag) (g : GC) (t : DO) : TO := fun σ H Q => ∃ δ st q, Cfg K g δ st σ H ∧ t δ st q ∧ ∀ b st' H', Le H H' → SR K g.T st' H' → q b st' → Q b H'
abbrev PDO (X : Cx) (g : GC) (e : Option Expr) (t : DO) : Prop := PO X e (lftO X.K g t)
def dNoPart : DO := fun _ st q => q none st
def dPart (t : DE) : DO := fun δ st q => t δ st fun x st1 => ∃ i, x = .int i ∧ q (some i) st1
theorem PO.imp {e : Option Expr} {t t' : TO} (h : PO X e t) (i : ∀ σ H Q, t' σ H Q → t σ H Q) : PO X e t' := ⟨fun pins s σ H Q I q => h.run pins s σ H Q I (i σ H Q q)⟩
theorem pdo_none : PDO X g none dNoPart := PO.imp po_none fun σ H Q ⟨δ, st, q, cf, h, k⟩ => k none st H Le.refl cf.sr h
theorem pdo_some (h : PD X g e te) : PDO X g (some e) (dPart te) := PO.imp (po_some h) fun σ H Q ⟨δ, st, q, cf, h, k⟩ => lb cf h fun d st1 v H1 l1 r1 c1 ⟨i, ed, z⟩ => by
  subst ed
  cases r1
  exact ⟨i, rfl, k _ st1 H1 l1 c1.sr z⟩
def dSl (o : OS) (te : DE) (tl th : DO) : DE := fun δ st q => te δ st fun x st1 => tl δ st1 fun l st2 => th δ st2 fun u st3 => o x l u st3 q
theorem pd_slice {os : OS} {lo hi : Option Expr} {tl th : DO} {p2 : Pos} (hr : SlD X g os) (he : PD X g e te) (hl : PDO X g lo tl) (hu : PDO X g hi th) : PD X g (.Subscript e (.Slice lo hi none p2) pos) (dSl os te tl th) :=
  PE.imp (pe_slice hr he hl hu) fun σ H Q ⟨δ, st, q, cf, h, k⟩ => lb cf h fun x st1 v1 H1 l1 r1 c1 h1 =>
    ⟨δ, st1, _, c1, h1, fun l st2 H2 l2 s2 h2 => ⟨δ, st2, _, c1.go l2 s2, h2, fun u st3 H3 l3 s3 h3 => ⟨x, st3, q, r1.mono (l2.trans l3), s3, h3, kq_of ((l1.trans l2).trans l3) k⟩⟩⟩
/-! ### statements -/
variable {s : Stmt} {rest : List Stmt} {u v : DS}
def sNext : DS := fun N δ st => N.nx δ st
def sSeq (t u : DS) : DS := fun N δ st => t { N with nx := u N } δ st
theorem pdss_nil : PDSs X g [] sNext := PSs.imp pss_nil fun E σ H ⟨δ, st, N, cf, h, n⟩ => n.nx δ st σ H Le.refl cf h
theorem pdss_cons (h1 : PDS X g s u) (h2 : PDSs X g rest v) : PDSs X g (s :: rest) (sSeq u v) :=
  PSs.imp (pss_cons h1 h2) fun E σ H ⟨δ, st, N, cf, h, n⟩ => ⟨δ, st, { N with nx := v N }, cf, h, ⟨fun δ' st' σ' H' l c' z => ⟨δ', st', N, c', z, n.go l⟩, n.rt, n.bk, n.ct⟩⟩
theorem pdss_one (h1 : PDS X g s u) : PDSs X g [s] u := pss_one h1
theorem pds_pass : PDS X g (.Pass pos) sNext := PS.imp ps_pass fun E σ H ⟨δ, st, N, cf, h, n⟩ => n.nx δ st σ H Le.refl cf h
def sBreak : DS := fun N δ st => N.bk δ st
def sCont : DS := fun N δ st => N.ct δ st
theorem pds_break : PDS X g (.Break pos) sBreak := PS.imp ps_break fun E σ H ⟨δ, st, N, cf, h, n⟩ => n.bk δ st σ H Le.refl cf h
theorem pds_continue : PDS X g (.Continue pos) sCont := PS.imp ps_continue fun E σ H ⟨δ, st, N, cf, h, n⟩ => n.ct δ st σ H Le.refl cf h
def sDrop (te : DE) : DS := fun N δ st => te δ st fun _ st1 => N.nx δ st1
theorem pds_expr (he : PD X g e te) (hs : swapsWith e none pos.line X.env = pure false := by rfl) : PDS X g (.Expr e pos) (sDrop te) :=
  PS.imp (ps_expr he hs) fun E σ H ⟨δ, st, N, cf, h, n⟩ => lb cf h fun d st1 v H1 l1 r1 c1 z => n.nx δ st1 σ H1 l1 c1 z
def sRet (te : DE) : DS := fun N δ st => te δ st N.rt
theorem pds_ret (he : PD X g e te) : PDS X g (.Return (some e) pos) (sRet te) :=
  PS.imp (ps_ret he) fun E σ H ⟨δ, st, N, cf, h, n⟩ => lb cf h fun d st1 v H1 l1 r1 c1 z => n.rt d st1 v H1 l1 c1.le r1 c1.sr z
def sRetN : DS := fun N _ st => N.rt .non st
theorem pds_retN : PDS X g (.Return none pos) sRetN := PS.imp ps_retN fun E σ H ⟨δ, st, N, cf, h, n⟩ => n.rt .non st .non H Le.refl cf.le .non cf.sr h
def sIf (c : DT) (t u : DS) : DS := fun N δ st => c δ st fun b st1 => if b = true then t N δ st1 else u N δ st1
theorem pds_if {sa sb : List Stmt} (hc : PDT X g c tA) (ha : PDSs X g sa u) (hb : PDSs X g sb v) : PDS X g (.If c sa sb pos) (sIf tA u v) :=
  PS.imp (ps_if hc ha hb) fun E σ H ⟨δ, st, N, cf, h, n⟩ => lbT cf h fun d st1 H1 l1 c1 z => by
    cases d with
    | true => exact ⟨δ, st1, N, c1, z, n.go l1⟩
    | false => exact ⟨δ, st1, N, c1, z, n.go l1⟩
def sNever : DS := fun _ _ _ => False
theorem pdss_never {sts : List Stmt} : PDSs X g sts sNever := PSs.imp pss_never fun E σ H ⟨δ, st, N, cf, h, n⟩ => h
theorem pds_never : PDS X g s sNever := PS.imp ps_never fun E σ H ⟨δ, st, N, cf, h, n⟩ => h
/-! ### targets -/
abbrev DG := D → DEnv → Stt → (DEnv → Stt → Prop) → Prop
abbrev DGs := List D → DEnv → Stt → (DEnv → Stt → Prop) → Prop
def lftG (K : PySem.W.Frag) (g : GC) (t : DG) : TG := fun v σ H Q => ∃ d δ st q, Rep K H d v ∧ Cfg K g δ st σ H ∧ t d δ st q ∧ ∀ δ' st' σ' H', Le H H' → Cfg K g δ' st' σ' H' → q δ' st' → Q σ' H'
def lftGs (K : PySem.W.Frag) (g : GC) (t : DGs) : TGs := fun vs σ H Q => ∃ ds δ st q, Reps K H ds vs ∧ Cfg K g δ st σ H ∧ t ds δ st q ∧ ∀ δ' st' σ' H', Le H H' → Cfg K g δ' st' σ' H' → q δ' st' → Q σ' H'
abbrev PDG (X : Cx) (g : GC) (e : Expr) (t : DG) : Prop := PG X e (lftG X.K g t)
abbrev PDGs (X : Cx) (g : GC) (es : List Expr) (t : DGs) : Prop := PGs X es (lftGs X.K g t)
theorem PG.imp {e : Expr} {t t' : TG} (h : PG X e t) (i : ∀ v σ H Q, t' v σ H Q → t v σ H Q) : PG X e t' := ⟨fun pins s σ H v u Q I r q => h.run pins s σ H v u Q I r (i v σ H Q q)⟩
theorem PGs.imp {e : List Expr} {t t' : TGs} (h : PGs X e t) (i : ∀ v σ H Q, t' v σ H Q → t v σ H Q) : PGs X e t' := ⟨fun pins s σ H v u Q I r q => h.run pins s σ H v u Q I r (i v σ H Q q)⟩
def gNm (i : Nat) : DG := fun d δ st q => q (δ.set i (some d)) st
theorem pdg_nm (i : Nat) {x : Str} (hN : X.N.Nodup) (hi : X.N[i]? = some x := by rfl) (hx : Loc X.env.scope x := by first | exact .inl rfl | exact .inr rfl) (hf : X.fn x = true ∨ X.env.scope.names.lookup x = some .local := by first | exact .inl rfl | exact .inr rfl) : PDG X g (.Name x pos) (gNm i) :=
  PG.imp (pg_name hN hi hx hf) fun v σ H Q ⟨d, δ, st, q, r, cf, h, k⟩ => k _ st _ H Le.refl (cf.set i r) h
def gsNil : DGs := fun ds δ st q => ds = [] ∧ q δ st
def gsCons (t : DG) (r : DGs) : DGs := fun ds δ st q => ∃ d es, ds = d :: es ∧ t d δ st fun δ' st' => r es δ' st' q
theorem pdgs_nil : PDGs X g [] gsNil := PGs.imp pgs_nil fun v σ H Q ⟨ds, δ, st, q, r, cf, ⟨e, h⟩, k⟩ => by
  subst e
  cases r
  exact ⟨rfl, k _ _ _ _ Le.refl cf h⟩
theorem pdgs_cons {tg : DG} {tr : DGs} (h1 : PDG X g e tg) (h2 : PDGs X g es tr) (hs : (assignEach (e :: es) X.env).map (·.2) = assign e X.env :: (assignEach es X.env).map (·.2) := by rfl) : PDGs X g (e :: es) (gsCons tg tr) :=
  PGs.imp (pgs_cons h1 h2 hs) fun v σ H Q ⟨ds, δ, st, q, r, cf, ⟨d, dr, e1, h⟩, k⟩ => by
    subst e1
    cases r with
    | @cons _ v1 _ vs r1 rr =>
      exact ⟨v1, vs, rfl, d, δ, st, _, r1, cf, h, fun δ' st' σ' H' l c' z => ⟨dr, δ', st', q, rr.mono l, c', z, fun δ2 st2 σ2 H2 l2 c2 z2 => k δ2 st2 σ2 H2 (l.trans l2) c2 z2⟩⟩
def gTp (n : Nat) (t : DGs) : DG := fun d δ st q => ∃ ds, d = .tup ds ∧ ds.length = n ∧ t ds δ st q
theorem pdg_tup {k' n : Nat} {tr : DGs} (hc : X.calm = true) (h : PDGs X g es tr) (hn : (assignEach es X.env).length = n := by rfl) (hst : (assignEach es X.env).findIdx? (·.1) = none := by rfl) : PDG X g (.Tuple es k' pos) (gTp n tr) :=
  PG.imp (pg_tup hc h hn hst) fun v σ H Q ⟨d, δ, st, q, r, cf, ⟨ds, e1, hl, h⟩, k⟩ => by
    subst e1
    cases r with
    | @tup a _ vs hq rr => exact ⟨a, vs, rfl, SqT.of hq, by rw [← rr.length]; exact hl, ds, δ, st, q, rr, cf, h, k⟩
/-- o[i] = v -/
abbrev OSet := D → D → D → Stt → (Stt → Prop) → Prop
def SetD (X : Cx) (g : GC) (o : OSet) : Prop := PSet X fun x i v H Q => ∃ a b d st q, Rep X.K H a x ∧ Rep X.K H b i ∧ Rep X.K H d v ∧ SR X.K g.T st H ∧ o a b d st q ∧ ∀ st' H', Le H H' → SR X.K g.T st' H' → q st' → Q H'
def gSub (to ti : DE) (o : OSet) : DG := fun d δ st q => to δ st fun a st1 => ti δ st1 fun b st2 => o a b d st2 fun st3 => q δ st3
theorem pdg_sub {ob ib : Expr} {to ti : DE} {os : OSet} {p : Pos} (ho : PD X g ob to) (hi : PD X g ib ti) (hs : SetD X g os)
    (h' : ∀ v, assign (.Subscript ob ib p) X.env v = (holding [v] (eval ob X.env) >>= fun ov => holding [v, ov] (eval ib X.env) >>= fun iv => standAt p >>= fun _ => holding [v, ov, iv] (setItem ov iv v) >>= fun _ => release [v, ov, iv] []) := by exact fun _ => rfl) : PDG X g (.Subscript ob ib p) (gSub to ti os) :=
  PG.imp (pg_sub ho hi hs h') fun v σ H Q ⟨d, δ, st, q, r, cf, h, k⟩ => lb cf h fun x st1 v1 H1 l1 r1 c1 h1 => lb c1 h1 fun y st2 v2 H2 l2 r2 c2 h2 =>
    ⟨x, y, d, st2, _, r1.mono l2, r2, r.mono (l1.trans l2), c2.sr, h2, fun st3 H3 l3 s3 z => k δ st3 σ H3 ((l1.trans l2).trans l3) (c2.go l3 s3) z⟩
end
end DL
/-! DL3: assignments, loops, comprehensions, defs, calls, exceptions. -/
namespace DL
open PySem PySem.Spec L2
section
variable {X : Cx} {g : GC} {a b c e : Expr} {es : List Expr} {ta tb tc te : DE} {t : DA} {pos : Pos} {o o' : O2}
theorem pd_un {op : UnaryOp} {o1 : O1} (ho : UnD X g (unaryOp op) o1) (ha : PD X g a ta) : PD X g (.UnaryOp op a pos) (dUn o1 ta) :=
  PE.imp (pe_un ho ha) fun σ H Q ⟨δ, st, q, cf, h, k⟩ => lb cf h fun d1 st1 v1 H1 l1 r1 c1 h1 => ⟨d1, st1, q, r1, c1.sr, h1, kq_of l1 k⟩
/-! ### assignments -/
def sSet (i : Nat) (te : DE) : DS := fun N δ st => te δ st fun d st1 => N.nx (δ.set i (some d)) st1
theorem pds_set (i : Nat) {x : Str} {p : Pos} (hN : X.N.Nodup) (he : PD X g e te) (hi : X.N[i]? = some x := by rfl) (hx : Loc X.env.scope x := by first | exact .inl rfl | exact .inr rfl) (hs : swapsWith e (some (.Name x p)) pos.line X.env = pure false := by rfl)
    (hf : X.fn x = true ∨ X.env.scope.names.lookup x = some .local := by first | exact .inl rfl | exact .inr rfl) : PDS X g (.Assign [.Name x p] e pos) (sSet i te) :=
  PS.imp (ps_set hN hi hx he hs hf) fun E σ H ⟨δ, st, N, cf, h, n⟩ => lb cf h fun d st1 v H1 l1 r1 c1 z => n.nx _ st1 _ H1 l1 (c1.set i r1) z
def sAsg (te : DE) (tg : DG) : DS := fun N δ st => te δ st fun d st1 => tg d δ st1 N.nx
theorem pds_asg {tge : Expr} {tg : DG} (he : PD X g e te) (hg : PDG X g tge tg) (hs : swapsWithSole [tge] e pos.line X.env = pure false := by rfl) (hw : swappedStores [tge] e X.env = pure none := by rfl)
    (h1 : (assignEach [tge] X.env).map (·.2) = [assign tge X.env] := by rfl) : PDS X g (.Assign [tge] e pos) (sAsg te tg) :=
  PS.imp (ps_asg he hg hs hw h1) fun E σ H ⟨δ, st, N, cf, h, n⟩ => lb cf h fun d st1 v H1 l1 r1 c1 z => ⟨d, δ, st1, _, r1, c1, z, fun δ' st' σ' H' l c' y => n.nx δ' st' σ' H' (l1.trans l) c' y⟩
def sPar (i j : Nat) (ta : DA) : DS := fun N δ st => ta δ st fun vs st1 => ∃ v w, vs = [v, w] ∧ N.nx ((δ.set i (some v)).set j (some w)) st1
theorem pds_par (i j : Nat) {x y : Str} {px py pt : Pos} {kt k2 pt2} (hc : X.calm = true) (hN : X.N.Nodup) (ha : PDA X g [a, b] t) (hi : X.N[i]? = some x := by rfl) (hj : X.N[j]? = some y := by rfl) (hij : i ≠ j := by decide)
    (hx : X.env.scope.names.lookup x = some .local := by rfl) (hy : X.env.scope.names.lookup y = some .local := by rfl)
    (hw : swappedStores [.Tuple [.Name x px, .Name y py] kt pt] (.Tuple [a, b] k2 pt2) X.env = pure (some [x, y]) := by rfl)
    (hs : swapsWithSole [.Tuple [.Name x px, .Name y py] kt pt] (.Tuple [a, b] k2 pt2) pos.line X.env = pure false := by rfl) :
    PDS X g (.Assign [.Tuple [.Name x px, .Name y py] kt pt] (.Tuple [a, b] k2 pt2) pos) (sPar i j t) :=
  PS.imp (ps_par hc hN hi hj hij hx hy ha hw hs) fun E σ H ⟨δ, st, N, cf, h, n⟩ => lbA cf h fun ds st1 vs H1 l1 r1 c1 ⟨v, w, ed, z⟩ => by
    subst ed
    cases r1 with
    | cons r1 r2 =>
      cases r2 with
      | cons r2 r3 =>
        cases r3
        exact ⟨_, _, rfl, n.nx _ st1 _ H1 l1 ((c1.set i r1).set j r2) z⟩
def sPar3 (i j l : Nat) (ta : DA) : DS := fun N δ st => ta δ st fun vs st1 => ∃ v w u, vs = [v, w, u] ∧ N.nx (((δ.set i (some v)).set j (some w)).set l (some u)) st1
/-- x op= e at a name -/
def IpD (X : Cx) (g : GC) (op : Operator) (o : O2) : Prop := PIp X op fun x y H Q => ∃ a b st q, Rep X.K H a x ∧ Rep X.K H b y ∧ SR X.K g.T st H ∧ o a b st q ∧ Kq X.K g.T H q Q
def sAug (i : Nat) (o : O2) (te : DE) : DS := fun N δ st => ∃ x, δ[i]? = some (some x) ∧ te δ st fun y st1 => o x y st1 fun z st2 => N.nx (δ.set i (some z)) st2
theorem pds_aug (i : Nat) {x : Str} {op : Operator} {p : Pos} (hN : X.N.Nodup) (ho : IpD X g op o) (he : PD X g e te) (hi : X.N[i]? = some x := by rfl) (hx : Loc X.env.scope x := by first | exact .inl rfl | exact .inr rfl)
    (hf : X.fn x = true ∨ X.env.scope.names.lookup x = some .local := by first | exact .inl rfl | exact .inr rfl) : PDS X g (.AugAssign (.Name x p) op e pos) (sAug i o te) :=
  PS.imp (ps_aug hN hi hx he ho hf) fun E σ H ⟨δ, st, N, cf, ⟨d, e1, h⟩, n⟩ => by
    obtain ⟨v, e2, r⟩ := cf.env.at_ i d e1
    refine ⟨v, e2, lb cf h fun y st1 v1 H1 l1 r1 c1 z => ⟨d, y, st1, _, r.mono l1, r1, c1.sr, z, fun d2 st2 v2 H2 l2 r2 s2 z2 => ?_⟩⟩
    exact n.nx _ st2 _ H2 (l1.trans l2) ((c1.go l2 s2).set i r2) z2
/-! ### while -/
def sWhile (c : DT) (tb : DS) : DS := fun N δ st => ∃ W : Nat → DEnv → Stt → Prop, (∃ m, W m δ st) ∧ ∀ m δ st, W m δ st →
  c δ st fun b st1 => if b = true then ∃ M : DEnv → Stt → Prop, (∀ δ' st', M δ' st' → ∃ m', m' < m ∧ W m' δ' st') ∧ tb { N with nx := M, ct := M, bk := N.nx } δ st1 else N.nx δ st1
theorem pds_while {body : List Stmt} {tT : DT} {u : DS} (hp : PassesOwn (model X.prog X.w) X.A X.env X.xe) (hc : PDT X g c tT) (hb : PDSs X g body u) : PDS X g (.While c body [] pos) (sWhile tT u) := by
  refine PS.imp (ps_while hp hc hb) fun E σ H ⟨δ, st, N, cf, h, n⟩ => ?_
  obtain ⟨W, ⟨m, w0⟩, turn⟩ := h
  refine ⟨fun m σ' H' => ∃ δ' st', Le H H' ∧ Cfg X.K g δ' st' σ' H' ∧ W m δ' st', ⟨m, δ, st, Le.refl, cf, w0⟩, ?_⟩
  rintro m1 σ1 H1 ⟨δ1, st1, l1, c1, w1⟩
  refine lbT c1 (turn m1 δ1 st1 w1) fun d st2 H2 l2 c2 z => ?_
  cases d with
  | false => exact n.nx δ1 st2 σ1 H2 (l1.trans l2) c2 z
  | true =>
    obtain ⟨M, hM, z⟩ := z
    rw [if_pos rfl]
    refine ⟨fun σ' H' => ∃ δ' st', Le H H' ∧ Cfg X.K g δ' st' σ' H' ∧ M δ' st', ?_, δ1, st2, _, c2, z, ?_⟩
    · rintro σ' H' ⟨δ', st', l', c', y⟩
      obtain ⟨m', hm, w'⟩ := hM δ' st' y
      exact ⟨m', hm, δ', st', l', c', w'⟩
    · exact ⟨fun δ' st' σ' H' l c' y => ⟨δ', st', (l1.trans l2).trans l, c', y⟩, fun d st v H' l l0 r s y => n.rt d st v H' ((l1.trans l2).trans l) l0 r s y, fun δ' st' σ' H' l c' y => n.nx δ' st' σ' H' ((l1.trans l2).trans l) c' y, fun δ' st' σ' H' l c' y => ⟨δ', st', (l1.trans l2).trans l, c', y⟩⟩
/-! ### what is walked -/
abbrev DIt := Stt → Option (List D)
abbrev DI := DEnv → Stt → (DIt → Stt → Prop) → Prop
def ItOk (K : PySem.W.Frag) (T : List (Addr × Str)) (it : DIt) (J : It) (H1 : Hp) : Prop :=
  ∀ (i : Nat) (H : Hp) (st : Stt) (ds : List D), Le H1 H → SR K T st H → it st = some ds →
    (ds.length ≤ i → J.stop i H) ∧ ∀ d, ds[i]? = some d → J.go i H ∧ ∀ x H', J.yld i H x H' → Le H H' ∧ SR K T st H' ∧ Rep K H' d x
def lftI (K : PySem.W.Frag) (g : GC) (t : DI) : TI := fun σ H R => ∃ δ st q, Cfg K g δ st σ H ∧ t δ st q ∧ ∀ it st' J H', Le H H' → SR K g.T st' H' → ItOk K g.T it J H' → q it st' → R J H'
abbrev PDI (X : Cx) (g : GC) (tg iter : Expr) (t : DI) : Prop := PI X tg iter (lftI X.K g t)
theorem PI.imp {tg : Expr} {t t' : TI} (h : PI X tg e t) (i : ∀ σ H R, t' σ H R → t σ H R) : PI X tg e t' := ⟨fun pins s σ H R I q => h.run pins s σ H R I (i σ H R q)⟩
/-- the turns over ds -/
def runF (chk : Stt → Prop) (tg : DG) (tb : DS) (N : DN) : List D → DEnv → Stt → Prop
  | [], δ, st => N.nx δ st
  | d :: r, δ, st => tg d δ st fun δ2 st2 => tb { N with nx := fun δ' st' => chk st' ∧ runF chk tg tb N r δ' st', ct := fun δ' st' => chk st' ∧ runF chk tg tb N r δ' st', bk := N.nx } δ2 st2
def sFor (wi : DI) (tg : DG) (tb : DS) : DS := fun N δ st => wi δ st fun it st1 => ∃ ds, it st1 = some ds ∧ runF (fun st' => it st' = some ds) tg tb N ds δ st1
theorem pds_for {tge iter : Expr} {body : List Stmt} {wi : DI} {tg : DG} {u : DS} (hp : PassesOwn (model X.prog X.w) X.A X.env X.xe) (hc : X.calm = true) (hi : PDI X g tge iter wi) (hg : PDG X g tge tg) (hb : PDSs X g body u)
    (hs : ∀ x, foldedSetIterable iter X.env x = pure x := by exact fun _ => rfl) : PDS X g (.For tge iter body [] pos) (sFor wi tg u) := by
  refine PS.imp (ps_for hp hc hi hg hb hs) fun E σ H ⟨δ, st, N, cf, h, n⟩ => ?_
  refine ⟨δ, st, _, cf, h, fun it st1 J H1 l1 s1 ok ⟨ds, e0, h1⟩ => ?_⟩
  refine ⟨fun i m σ' H' => ∃ δ' st', Le H1 H' ∧ Cfg X.K g δ' st' σ' H' ∧ it st' = some ds ∧ m + i = ds.length ∧ runF (fun st' => it st' = some ds) tg u N (ds.drop i) δ' st', ⟨ds.length, δ, st1, Le.refl, cf.go l1 s1, e0, rfl, h1⟩, ?_⟩
  rintro i m σ2 H2 ⟨δ2, st2, l2, c2, e2, hm, h2⟩
  obtain ⟨hstop, hgo⟩ := ok i H2 st2 ds l2 c2.sr e2
  by_cases hi : i < ds.length
  · obtain ⟨g1, g2⟩ := hgo ds[i] (List.getElem?_eq_getElem hi)
    rw [List.drop_eq_getElem_cons hi] at h2
    refine .inr ⟨g1, fun σ' H' => ∃ δ' st', Le H1 H' ∧ Cfg X.K g δ' st' σ' H' ∧ it st' = some ds ∧ runF (fun st' => it st' = some ds) tg u N (ds.drop (i + 1)) δ' st', ?_, fun x H' y => ?_⟩
    · rintro σ' H' ⟨δ', st', l', c', e', z⟩
      exact ⟨m - 1, by omega, δ', st', l', c', e', by omega, z⟩
    · obtain ⟨l3, s3, r3⟩ := g2 x H' y
      refine ⟨ds[i], δ2, st2, _, r3, c2.go l3 s3, h2, fun δ4 st4 σ4 H4 l4 c4 z => ⟨δ4, st4, _, c4, z, ?_⟩⟩
      have ll := ((l1.trans l2).trans l3).trans l4
      exact ⟨fun δ' st' σ' H' l c' y => ⟨δ', st', ((l2.trans l3).trans l4).trans l, c', y.1, y.2⟩, fun d st v H' l l0 r s y => n.rt d st v H' (ll.trans l) l0 r s y, fun δ' st' σ' H' l c' y => n.nx δ' st' σ' H' (ll.trans l) c' y, fun δ' st' σ' H' l c' y => ⟨δ', st', ((l2.trans l3).trans l4).trans l, c', y.1, y.2⟩⟩
  · refine .inl ⟨hstop (by omega), n.nx δ2 st2 σ2 H2 (l1.trans l2) c2 ?_⟩
    rw [List.drop_of_length_le (by omega)] at h2
    exact h2
def iTupD (te : DE) : DI := fun δ st q => te δ st fun x st1 => ∃ ds, x = .tup ds ∧ q (fun _ => some ds) st1
theorem itok_tup {K : PySem.W.Frag} {T : List (Addr × Str)} {H1 : Hp} {a : Addr} {ds : List D} {vs : List V} (h : H1 a = some (.tup vs)) (r : Reps K H1 ds vs) : ItOk K T (fun _ => some ds) (Itt K a) H1 := by
  intro i H st es l s e
  cases e
  have r' := r.mono l
  refine ⟨fun hl => ⟨vs, SqT.of (l.tup _ _ h), by rw [← r.length]; exact hl⟩, fun d hd => ?_⟩
  obtain ⟨v, e1, e2⟩ := r'.get hd
  refine ⟨⟨vs, v, SqT.of (l.tup _ _ h), e1⟩, fun x H' y => ?_⟩
  obtain ⟨rfl, hy⟩ := y
  have := hy vs (SqT.of (l.tup _ _ h))
  rw [e1] at this
  cases this
  exact ⟨Le.refl, s, e2⟩
theorem pdi_tup {tg : Expr} (he : PD X g e te) : PDI X g tg e (iTupD te) :=
  PI.imp (pi_tup he) fun σ H R ⟨δ, st, q, cf, h, k⟩ => lb cf h fun d st1 v H1 l1 r1 c1 ⟨ds, ed, z⟩ => by
    subst ed
    cases r1 with
    | @tup a _ vs hq rr => exact ⟨a, rfl, ⟨vs, SqT.of hq⟩, k _ st1 _ H1 l1 c1.sr (itok_tup hq rr) z⟩
/-- the list at a, as it stands -/
def lstAt (a : Addr) : DIt := fun st => match st a with
  | some (.lst ds) => some ds
  | _ => none
theorem lstAt_of {a : Addr} {st : Stt} {ds : List D} (h : lstAt a st = some ds) : st a = some (.lst ds) := by
  unfold lstAt at h
  split at h
  · rename_i e; cases h; exact e
  · cases h
def iLstD (te : DE) : DI := fun δ st q => te δ st fun x st1 => ∃ a ds, x = .ref a ∧ st1 a = some (.lst ds) ∧ q (lstAt a) st1
theorem itok_lst {K : PySem.W.Frag} {T : List (Addr × Str)} {H1 : Hp} {a : Addr} : ItOk K T (lstAt a) (Itl K a) H1 := by
  intro i H st es l s e
  obtain ⟨vs, hq, r⟩ := s.obj a _ (lstAt_of e)
  refine ⟨fun hl => ⟨vs, SqL.of hq, by rw [← r.length]; exact hl⟩, fun d hd => ?_⟩
  obtain ⟨v, e1, e2⟩ := r.get hd
  refine ⟨⟨vs, v, SqL.of hq, e1⟩, fun x H' y => ?_⟩
  obtain ⟨rfl, hy⟩ := y
  have := hy vs (SqL.of hq)
  rw [e1] at this
  cases this
  exact ⟨Le.refl, s, e2⟩
theorem pdi_lst {tg : Expr} (he : PD X g e te) : PDI X g tg e (iLstD te) :=
  PI.imp (pi_list he) fun σ H R ⟨δ, st, q, cf, h, k⟩ => lb cf h fun d st1 v H1 l1 r1 c1 ⟨a, ds, ed, ea, z⟩ => by
    subst ed
    cases r1
    obtain ⟨vs, hq, _⟩ := c1.sr.obj a _ ea
    exact ⟨a, rfl, ⟨vs, SqL.of hq⟩, k _ st1 _ H1 l1 c1.sr itok_lst z⟩
def rngL (lo : Int) (n : Nat) : List D := (List.range n).map fun i => D.int (lo + (i : Nat))
theorem itok_rng {K : PySem.W.Frag} {T : List (Addr × Str)} {H1 : Hp} {lo : Int} {n : Nat} : ItOk K T (fun _ => some (rngL lo n)) (Itr lo n) H1 := by
  intro i H st es l s e
  cases e
  refine ⟨fun hl => by unfold rngL at hl; rw [List.length_map, List.length_range] at hl; exact hl, fun d hd => ?_⟩
  have hi : i < n := by
    have := (List.getElem?_eq_some_iff.mp hd).1
    unfold rngL at this; rwa [List.length_map, List.length_range] at this
  refine ⟨hi, fun x H' y => ?_⟩
  obtain ⟨rfl, rfl⟩ := y
  have e2 : d = D.int (lo + (i : Nat)) := by
    unfold rngL at hd
    rw [List.getElem?_map, List.getElem?_range hi] at hd
    exact (Option.some.inj hd).symm
  rw [e2]
  exact ⟨Le.refl, s, .int⟩
def iRng1D (t : DA) : DI := fun δ st q => t δ st fun xs st1 => ∃ j : Int, xs = [.int j] ∧ -(2 ^ 62) ≤ j ∧ j < 2 ^ 62 ∧ q (fun _ => some (rngL 0 j.toNat)) st1
def iRng2D (t : DA) : DI := fun δ st q => t δ st fun xs st1 => ∃ i j : Int, xs = [.int i, .int j] ∧ (-(2 ^ 62) ≤ i ∧ i < 2 ^ 62 ∧ -(2 ^ 62) ≤ j ∧ j < 2 ^ 62) ∧ q (fun _ => some (rngL i (j - i).toNat)) st1
theorem pdi_rng1 {tg : Expr} {p : Pos} (hm : X.mg "range" = none) (ha : PDA X g [a] t) (hg : Gl X "range" := by rfl) (hs : starEach [a] X.env = [(false, eval a X.env)] := by rfl) : PDI X g tg (.Call (.Name "range" p) [a] [] pos) (iRng1D t) :=
  PI.imp (pi_range1 hg hm ha hs) fun σ H R ⟨δ, st, q, cf, h, k⟩ => lbA cf h fun d st1 v H1 l1 r1 c1 ⟨j, ed, h1, h2, z⟩ => by
    subst ed
    cases r1 with
    | cons r1 r2 =>
      cases r2
      cases r1
      exact ⟨j, rfl, h1, h2, k _ st1 _ H1 l1 c1.sr itok_rng z⟩
theorem pdi_rng2 {tg : Expr} {p : Pos} (hm : X.mg "range" = none) (ha : PDA X g [a, b] t) (hg : Gl X "range" := by rfl) (hs : starEach [a, b] X.env = [(false, eval a X.env), (false, eval b X.env)] := by rfl) (hs2 : starEach [b] X.env = [(false, eval b X.env)] := by rfl) : PDI X g tg (.Call (.Name "range" p) [a, b] [] pos) (iRng2D t) :=
  PI.imp (pi_range2 hg hm ha hs hs2) fun σ H R ⟨δ, st, q, cf, h, k⟩ => lbA cf h fun d st1 v H1 l1 r1 c1 ⟨i, j, ed, h1, z⟩ => by
    subst ed
    cases r1 with
    | cons r1 r2 =>
      cases r2 with
      | cons r2 r3 =>
        cases r3
        cases r1
        cases r2
        exact ⟨i, j, rfl, h1, k _ st1 _ H1 l1 c1.sr itok_rng z⟩
/-- a text's signs -/
def signsL (x : Str) : List D := x.cps.toList.map fun c => D.str ⟨#[c]⟩
def iStrD (te : DE) : DI := fun δ st q => te δ st fun x st1 => ∃ z, x = .str z ∧ q (fun _ => some (signsL z)) st1
/-! ### list comprehensions -/
def dwipe (δ : DEnv) : List Nat → DEnv
  | [] => δ
  | v :: vs => (dwipe δ vs).set v none
theorem dwipe_len (δ : DEnv) : ∀ vs : List Nat, (dwipe δ vs).length = δ.length
  | [] => rfl
  | v :: vs => by unfold dwipe; rw [List.length_set, dwipe_len δ vs]
theorem ER.none {K : PySem.W.Frag} {H : Hp} {δ : DEnv} {σ : L2.St} (e : ER K H δ σ) (i : Nat) : ER K H (δ.set i none) (σ.set i none) := by
  refine ⟨by simp [e.len], fun j d' h => ?_⟩
  by_cases hj : i = j
  · subst hj
    by_cases hl : i < δ.length
    · rw [List.getElem?_set_self hl] at h
      cases h
    · rw [List.getElem?_eq_none (by simpa using Nat.le_of_not_lt hl)] at h
      cases h
  · rw [List.getElem?_set_ne hj] at h ⊢
    exact e.at_ j d' h
theorem ER.wipe {K : PySem.W.Frag} {H : Hp} {δ : DEnv} {σ : L2.St} (e : ER K H δ σ) : ∀ vs : List Nat, ER K H (dwipe δ vs) (wipe σ vs)
  | [] => e
  | v :: vs => (ER.wipe e vs).none v
theorem Cfg.wipe {K : PySem.W.Frag} {H : Hp} {st : Stt} {δ : DEnv} {σ : L2.St} (c : Cfg K g δ st σ H) (vs : List Nat) : Cfg K g (dwipe δ vs) st (L2.wipe σ vs) H := ⟨c.le, c.env.wipe vs, c.sr⟩
theorem wipe_set {σ : L2.St} {i : Nat} {x : Option V} : ∀ {vs : List Nat}, i ∈ vs → L2.wipe (σ.set i x) vs = L2.wipe σ vs
  | [], h => by cases h
  | v :: vs, h => by
    unfold L2.wipe
    by_cases hv : i ∈ vs
    · rw [wipe_set hv]
    · have e : i = v := by simpa [hv] using h
      subst e
      have : ∀ ws : List Nat, i ∉ ws → L2.wipe (σ.set i x) ws = (L2.wipe σ ws).set i x := by
        intro ws
        induction ws with
        | nil => intro _; rfl
        | cons w ws ih =>
          intro hn
          simp only [List.mem_cons, not_or] at hn
          unfold L2.wipe
          rw [ih hn.2, List.set_comm _ _ hn.1]
      rw [this vs hv, List.set_set]
theorem wipe_sub {σ : L2.St} {vs : List Nat} : ∀ {ws : List Nat}, (∀ i ∈ ws, i ∈ vs) → L2.wipe (L2.wipe σ ws) vs = L2.wipe σ vs
  | [], _ => rfl
  | w :: ws, h => by
    show L2.wipe ((L2.wipe σ ws).set w none) vs = _
    rw [wipe_set (h w List.mem_cons_self), wipe_sub fun i hi => h i (List.mem_cons_of_mem _ hi)]
theorem wipe_idem {σ : L2.St} {vs : List Nat} : L2.wipe (L2.wipe σ vs) vs = L2.wipe σ vs := wipe_sub fun _ h => h
/-- a comprehension's target: a name, or a row of names -/
inductive CT where
  | one (i : Nat)
  | row (is : List Nat)
def CT.ids : CT → List Nat
  | .one i => [i]
  | .row is => is
def setAll : List Nat → List D → DEnv → DEnv
  | i :: is, d :: ds, δ => setAll is ds (δ.set i (some d))
  | _, _, δ => δ
def gNames : List Nat → TGs
  | [] => gNil
  | i :: is => gCons (gName i) (gNames is)
def CT.tg (K : PySem.W.Frag) : CT → TG
  | .one i => gName i
  | .row is => gTup K is.length (gNames is)
/-- what the target makes of an item -/
def CT.dg : CT → DG
  | .one i => gNm i
  | .row is => fun d δ st q => ∃ ds, d = .tup ds ∧ ds.length = is.length ∧ q (setAll is ds δ) st
theorem gNames_run {K : PySem.W.Frag} {H : Hp} {st : Stt} {vs : List Nat} {σ0 : L2.St} : ∀ {is : List Nat} {ds : List D} {ws : List V} {δ : DEnv} {σ : L2.St} {Q : L2.St → Hp → Prop}, (∀ i ∈ is, i ∈ vs) → Reps K H ds ws → ds.length = is.length → Cfg K g δ st σ H → L2.wipe σ vs = L2.wipe σ0 vs →
    (∀ σ2, Cfg K g (setAll is ds δ) st σ2 H → L2.wipe σ2 vs = L2.wipe σ0 vs → Q σ2 H) → gNames is ws σ H Q
  | [], [], _, δ, σ, Q, _, .nil, _, c, w, k => ⟨rfl, k σ c w⟩
  | i :: is, d :: ds, _, δ, σ, Q, hv, @Reps.cons _ _ _ v1 _ ws r rr, hl, c, w, k =>
    ⟨v1, ws, rfl, gNames_run (fun j hj => hv j (List.mem_cons_of_mem _ hj)) rr (by simpa using hl) (c.set i r) (by rw [wipe_set (hv i List.mem_cons_self)]; exact w) k⟩
theorem CT.run {K : PySem.W.Frag} {H : Hp} {st : Stt} {vs : List Nat} {σ0 : L2.St} {ct : CT} {d : D} {v : V} {δ : DEnv} {σ : L2.St} {q : DEnv → Stt → Prop} {Q : L2.St → Hp → Prop} (hv : ∀ i ∈ ct.ids, i ∈ vs) (r : Rep K H d v) (c : Cfg K g δ st σ H) (w : L2.wipe σ vs = L2.wipe σ0 vs) (h : ct.dg d δ st q)
    (k : ∀ δ2 σ2, Cfg K g δ2 st σ2 H → L2.wipe σ2 vs = L2.wipe σ0 vs → q δ2 st → Q σ2 H) : ct.tg K v σ H Q := by
  cases ct with
  | one i => exact k _ _ (c.set i r) (by rw [wipe_set (hv i (by simp [CT.ids]))]; exact w) h
  | row is =>
    obtain ⟨ds, rfl, hl, h⟩ := h
    cases r with
    | @tup a _ ws hq rr =>
      exact ⟨a, ws, rfl, SqT.of hq, by rw [← rr.length]; exact hl, gNames_run hv rr hl c w fun σ2 c2 w2 => k _ σ2 c2 w2 h⟩
/-- the turns: D the new list, δ0 the frame without the block's own names -/
def runC (chk : Stt → Prop) (ct : CT) (tt : DT) (te : DE) (p : Addr) (q : Stt → Prop) : List D → DEnv → Stt → Prop
  | [], _, st => q st
  | d :: r, δ0, st => ct.dg d δ0 st fun δ2 st2 => tt δ2 st2 fun b st3 => if b = true then te δ2 st3 fun y st4 => ∃ acc, st4 p = some (.lst acc) ∧ acc.length < sizeLine ∧ chk (put st4 p (.lst (acc ++ [y]))) ∧ runC chk ct tt te p q r δ0 (put st4 p (.lst (acc ++ [y])))
      else chk st3 ∧ runC chk ct tt te p q r δ0 st3
def dLc (wi : DI) (ct : CT) (tt : DT) (te : DE) (vs : List Nat) : DE := fun δ st q => wi δ st fun it st1 => ∃ ds, it st1 = some ds ∧ ∀ p, st1 p = none → it (put st1 p (.lst [])) = some ds ∧ runC (fun st' => it st' = some ds) ct tt te p (fun st2 => q (.ref p) st2) ds (dwipe δ vs) (put st1 p (.lst []))
theorem lc_imp {wi : DI} {ct : CT} {tt : DT} {vs : List Nat} (hv : ∀ i ∈ ct.ids, i ∈ vs) (σ : L2.St) (H : Hp) (Q : VK) (h : lft X.K g (dLc wi ct tt te vs) σ H Q) : tLc (lftI X.K g wi) (ct.tg X.K) (lftT X.K g tt) (lft X.K g te) vs σ H Q := by
  obtain ⟨δ, st, q, cf, h, k⟩ := h
  refine ⟨δ, st, _, cf, h, fun it st1 J H1 l1 s1 ok ⟨ds, e0, h1⟩ p np => ?_⟩
  have np' : st1 p = none := s1.free np
  obtain ⟨e1, h1⟩ := h1 p np'
  have S2 : SR X.K g.T (put st1 p (.lst [])) (upd H1 p (.lst [])) := s1.put (od := .lst []) (by rw [np]; trivial) ⟨[], upd_same, .nil⟩
  have L2' : Le H1 (upd H1 p (.lst [])) := Le.new np
  refine ⟨fun i m H' => ∃ st', Le H1 H' ∧ Cfg X.K g (dwipe δ vs) st' (L2.wipe σ vs) H' ∧ it st' = some ds ∧ m + i = ds.length ∧ runC (fun st' => it st' = some ds) ct tt te p (fun st2 => q (.ref p) st2) (ds.drop i) (dwipe δ vs) st', ⟨ds.length, _, L2', (cf.go (l1.trans L2') S2).wipe vs, e1, rfl, h1⟩, ?_⟩
  rintro i m H2 ⟨st2, l2, c2, e2, hm, h2⟩
  obtain ⟨hstop, hgo⟩ := ok i H2 st2 ds l2 c2.sr e2
  by_cases hi : i < ds.length
  · obtain ⟨g1, g2⟩ := hgo ds[i] (List.getElem?_eq_getElem hi)
    rw [List.drop_eq_getElem_cons hi] at h2
    refine .inr ⟨g1, fun H' => ∃ st', Le H1 H' ∧ Cfg X.K g (dwipe δ vs) st' (L2.wipe σ vs) H' ∧ it st' = some ds ∧ runC (fun st' => it st' = some ds) ct tt te p (fun st2 => q (.ref p) st2) (ds.drop (i + 1)) (dwipe δ vs) st', ?_, fun x H3 y => ?_⟩
    · rintro H' ⟨st', l', c', e', z⟩
      exact ⟨m - 1, by omega, st', l', c', e', by omega, z⟩
    · obtain ⟨l3, s3, r3⟩ := g2 x H3 y
      refine CT.run (σ0 := σ) hv r3 (c2.go l3 s3) wipe_idem h2 fun δ4 σ4 c4 w4 z => ⟨w4, ?_⟩
      refine lbT c4 z fun b st5 H5 l5 c5 z5 => ?_
      have back : ∀ {st' H'}, Le H3 H' → SR X.K g.T st' H' → Cfg X.K g (dwipe δ vs) st' (L2.wipe σ vs) H' := fun l s => c2.go (l3.trans l) s
      cases b with
      | false => exact ⟨st5, (l2.trans l3).trans l5, back l5 c5.sr, z5.1, z5.2⟩
      | true =>
        rw [if_pos rfl] at z5 ⊢
        refine lb c5 z5 fun y st6 v6 H6 l6 r6 c6 ⟨acc, ea, hl, z6⟩ => ?_
        obtain ⟨ws, hq, rr⟩ := c6.sr.obj p _ ea
        have mu : MutD (H6 p) := by rw [hq]; trivial
        refine ⟨ws, hq, by rw [← rr.length]; exact hl, put st6 p (.lst (acc ++ [y])), ((l2.trans l3).trans (l5.trans l6)).trans (le_upd mu), back ((l5.trans l6).trans (le_upd mu)) ?_, z6.1, z6.2⟩
        exact c6.sr.put (od := .lst (acc ++ [y])) mu ⟨_, upd_same, (rr.append (.cons r6 .nil)).mono (le_upd mu)⟩
  · rw [List.drop_of_length_le (by omega)] at h2
    exact .inl ⟨hstop (by omega), k _ st2 _ H2 (l1.trans l2) .ref c2.sr h2⟩
theorem pgs_names {ids : List Nat} {es : List Expr} (h : PGs X es (gNames ids)) : PGs X es (gNames ids) := h
theorem pd_lc {ct : CT} {elt tge iter : Expr} {ifs : List Expr} {scope : Scope} {own : List (Str × Nat)} {wi : DI} {tt : DT} (hc : X.calm = true) (hN : X.N.Nodup) (hi : PDI X g tge iter wi) (ok : BlkOk X.N X.env.scope scope own) (hv : ∀ i ∈ ct.ids, i ∈ own.map (·.2))
    (hg : ∀ (s : Shared) (H : Hp) (C : Addr) (cl : List (Str × Addr)) (fp : List Addr), PG (X.blk s H scope (compEnvC scope cl C X.env) fp) tge (ct.tg X.K))
    (ht : ∀ (s : Shared) (H : Hp) (C : Addr) (cl : List (Str × Addr)) (fp : List Addr), PTs (X.blk s H scope (compEnvC scope cl C X.env) fp) ifs (lftT X.K g tt))
    (he : ∀ (s : Shared) (H : Hp) (C : Addr) (cl : List (Str × Addr)) (fp : List Addr), PD (X.blk s H scope (compEnvC scope cl C X.env) fp) g elt te)
    (hs : ∀ x, foldedSetIterable iter X.env x = pure x := by exact fun _ => rfl) : PD X g (.ListComp elt [⟨tge, iter, ifs, 0⟩] scope pos) (dLc wi ct tt te (own.map (·.2))) :=
  PE.imp (L2.pe_lc (te := lft X.K g te) (tt := lftT X.K g tt) hc hN hi ok hg ht he hs) (lc_imp hv)
theorem pds_lc {ct : CT} (i : Nat) {y : Str} {py spos : Pos} {elt tge iter : Expr} {ifs : List Expr} {scope : Scope} {own : List (Str × Nat)} {wi : DI} {tt : DT} (hc : X.calm = true) (hN : X.N.Nodup) (hy : X.N[i]? = some y) (hyl : X.env.scope.names.lookup y = some .local)
    (hsw : swapsWith (.ListComp elt [⟨tge, iter, ifs, 0⟩] scope pos) (some (.Name y py)) spos.line X.env = pure true) (hi : PDI X g tge iter wi) (ok : BlkOk X.N X.env.scope scope own) (hv : ∀ i ∈ ct.ids, i ∈ own.map (·.2))
    (hg : ∀ (s : Shared) (H : Hp) (C : Addr) (cl : List (Str × Addr)) (fp : List Addr), PG (X.blk s H scope (compEnvC scope cl C X.env) fp) tge (ct.tg X.K))
    (ht : ∀ (s : Shared) (H : Hp) (C : Addr) (cl : List (Str × Addr)) (fp : List Addr), PTs (X.blk s H scope (compEnvC scope cl C X.env) fp) ifs (lftT X.K g tt))
    (he : ∀ (s : Shared) (H : Hp) (C : Addr) (cl : List (Str × Addr)) (fp : List Addr), PD (X.blk s H scope (compEnvC scope cl C X.env) fp) g elt te)
    (hs : ∀ x, foldedSetIterable iter X.env x = pure x := by exact fun _ => rfl) : PDS X g (.Assign [.Name y py] (.ListComp elt [⟨tge, iter, ifs, 0⟩] scope pos) spos) (sSet i (dLc wi ct tt te (own.map (·.2)))) := by
  refine PS.imp (L2.ps_setLc (te := lft X.K g te) (tt := lftT X.K g tt) hc hN hy hyl hsw hi ok hg ht he hs) fun E σ H ⟨δ, st, N, cf, h, n⟩ => ?_
  refine lc_imp (te := te) hv σ H _ ⟨δ, st, fun d st' => N.nx (δ.set i (some d)) st', cf, h, fun d st' v H' l r s z => ?_⟩
  exact n.nx _ st' _ H' l ((cf.go l s).set i r) z
end
end DL
/-! DL4: exceptions, defs, calls. -/
namespace DL
open PySem PySem.Spec L2
/-- an exception as it lies -/
def XR (K : PySem.W.Frag) (H : Hp) (x : Exc) (cls : Value) (d : Option Addr) : Prop := cls = .ref x.cls ∧ (x.pay = [] ∨ ∃ a fs, d = some a ∧ H a = some (.xd fs) ∧ KR K H x.pay fs)
abbrev DXE := Exc → DEnv → Stt → Prop
/-- the wish at the layer's level -/
def wx (K : PySem.W.Frag) (g : GC) (ex : DXE) : WX := fun cls d σ H => ∃ x δ st, Cfg K g δ st σ H ∧ XR K H x cls d ∧ ex x δ st
/-- where a body stands -/
structure Ce (X : Cx) (g : GC) (gb : Bool) (k : Nat) (ex : DXE) : Prop where
  room : Room k X.A
  gd : gb = true → X.A.guards = some []
  calm : X.calm = true
  nd : X.N.Nodup
  tk : Takes X (wx X.K g ex)
structure Ct (X : Cx) (g : GC) (gb : Bool) (k : Nat) (ex : DXE) : Prop extends Ce X g gb k ex where
  hp : PassesOwn (model X.prog X.w) X.A X.env X.xe
/-- nothing may be raised -/
def noX : DXE := fun _ _ _ => False
theorem takes_no {X : Cx} : Takes X (fun _ _ _ _ => False) := fun _ _ ⟨_, _, _, _, _, _, _, _, _, _, _, _, _, _, _, _, w⟩ => w.elim
theorem Ce.blk {X : Cx} {g : GC} {k : Nat} {ex : DXE} {gb : Bool} (c : Ce X g gb k ex) (s : Shared) (H : Hp) (scope : Scope) (e : PySem.Env) (fp : List Addr) : Ce (X.blk s H scope e fp) g gb k noX :=
  ⟨c.room, c.gd, c.calm, c.nd, takes_no.imp fun _ _ _ _ ⟨_, _, _, _, _, z⟩ => z⟩
theorem Ce.un {X : Cx} {g : GC} {k : Nat} {ex : DXE} {gb : Bool} (c : Ce X g gb k ex) : X.A.units + 64 < cLine := c.room.units
theorem Ce.un1 {X : Cx} {g : GC} {k : Nat} {ex : DXE} {gb : Bool} (c : Ce X g gb k ex) : X.A.units + 1 < cLine := by have := c.un; omega
abbrev DSp := List D → Stt → DQ → DX → Prop
def lftF (K : PySem.W.Frag) (T : List (Addr × Str)) (sp : DSp) (vs : List V) (H : Hp) (Q : VK) (E : XK) : Prop :=
  ∃ ds st q ex, Reps K H ds vs ∧ SR K T st H ∧ sp ds st q ex ∧ Kq K T H q Q ∧ ∀ x st' cls dd H', Le H H' → XR K H' x cls dd → SR K T st' H' → ex x st' → E cls dd H'
/-- a def keeps its promise, wherever nothing is being shown (repr) -/
structure FG (P : Program) (w : World) (K : PySem.W.Frag) (mg : Str → Option Value) (base : Heap) (T : List (Addr × Str)) (gb : Bool) (k : Nat) (f : Addr) (fd : FuncData) (ps : List Str) (sp : DSp) : Prop where
  len : ∀ ds st q ex, sp ds st q ex → ds.length = ps.length
  run : ∀ (A : Around) (outer : List PySem.Env) (s : Shared) (H : Hp) (args : Args) (us : List Value) (vs : List V) (Q : VK) (E : XK), Room k A → (gb = true → A.guards = some []) → Env0 P w K mg base A outer s H → BindsTo s fd args (ps.zip us) → Vals vs us → lftF K T sp vs H Q E →
    codeAny (model P w) A (.call (.ref f) args) (CR (L2.CX P w) outer P w H s Q E) s
theorem FG.mono {P : Program} {w : World} {K : PySem.W.Frag} {mg : Str → Option Value} {base : Heap} {T : List (Addr × Str)} {gb : Bool} {j k : Nat} {f : Addr} {fd : FuncData} {ps : List Str} {sp : DSp} (F : FG P w K mg base T gb j f fd ps sp) (h : j ≤ k) : FG P w K mg base T gb k f fd ps sp :=
  ⟨F.len, fun A outer s H args us vs Q E r => F.run A outer s H args us vs Q E (r.mono h)⟩
/-- a stronger ask -/
theorem FG.imp {P : Program} {w : World} {K : PySem.W.Frag} {mg : Str → Option Value} {base : Heap} {T : List (Addr × Str)} {gb : Bool} {k : Nat} {f : Addr} {fd : FuncData} {ps : List Str} {sp sp' : DSp} (F : FG P w K mg base T gb k f fd ps sp) (i : ∀ ds st q ex, sp' ds st q ex → sp ds st q ex) : FG P w K mg base T gb k f fd ps sp' :=
  ⟨fun ds st q ex h => F.len _ _ _ _ (i _ _ _ _ h), fun A outer s H args us vs Q E r gd e0 b rv ⟨ds, st, q, ex, h1, h2, h3, h4⟩ => F.run A outer s H args us vs Q E r gd e0 b rv ⟨ds, st, q, ex, h1, h2, i _ _ _ _ h3, h4⟩⟩
/-- what is known of a def's name -/
structure CalG (P : Program) (w : World) (K : PySem.W.Frag) (mg : Str → Option Value) (base : Heap) (T : List (Addr × Str)) (gb : Bool) (k : Nat) (x : Str) (sp : DSp) : Prop where
  ex : ∃ f fd ps, mg x = some (.ref f) ∧ PySem.W.keepIn K (.ref f) = true ∧ Binds K fd ps [] ∧ FG P w K mg base T gb k f fd ps sp
theorem CalG.mono {P : Program} {w : World} {K : PySem.W.Frag} {mg : Str → Option Value} {base : Heap} {T : List (Addr × Str)} {gb : Bool} {j k : Nat} {x : Str} {sp : DSp} (c : CalG P w K mg base T gb j x sp) (h : j ≤ k) : CalG P w K mg base T gb k x sp :=
  let ⟨f, fd, ps, h1, h2, h3, F⟩ := c.ex; ⟨f, fd, ps, h1, h2, h3, F.mono h⟩
section
variable {X : Cx} {g : GC} {gb gc : Bool} {k j : Nat} {ex : DXE} {x : Str} {p pos : Pos} {e : Expr} {es : List Expr} {t : DA} {sp : DSp}
def dCall (sp : DSp) (ex : DXE) (t : DA) : DE := fun δ st q => t δ st fun ds st1 => sp ds st1 q fun x st2 => ex x δ st2
theorem run_g {f : Addr} {fd : FuncData} {ps : List Str} {pins : List (Addr × Obj)} {σ : L2.St} {H : Hp} {s : Shared} {Q : VK} {us : List Value} {vs : List V} {E : XK} (F : FG X.prog X.w X.K X.mg X.base g.T gc k f fd ps sp) (hr : Room k X.A) (gd : gc = true → X.A.guards = some []) (hb : Binds X.K fd ps [])
    (hx : ∀ u s', L2.CX X.prog X.w X.stack H s E u s' → X.xe u s') (I : Inv X pins σ H s) (r : Vals vs us) (h : lftF X.K g.T sp vs H Q E) : wpAny (model X.prog X.w) X.A (call (.ref f) us) (EP X pins σ Q) X.xe s := by
  obtain ⟨ds, st, q, ex, h1, h2, h3, h4⟩ := id h
  have hl : us.length = ps.length := by rw [← r.length, ← h1.length]; exact F.len _ _ _ _ h3
  have b := hb s us I.kIn (by simpa using hl)
  rw [List.append_nil] at b
  refine wpAny_call (codeAny_mono (F.run X.A X.stack s H ⟨us, []⟩ us vs Q E hr gd I.env0 b r h) fun r s' hq => ?_)
  match r, hq with
  | .error u, hq => exact hx u s' hq
  | .ok (.ret u), hq => exact I.after hq
theorem pd_call (C : Ce X g gb j ex) (c : CalG X.prog X.w X.K X.mg X.base g.T gc k x sp) (hk : k ≤ j) (hgd : gc = true → gb = true) (ha : PDA X g (e :: es) t) (hg : Gl X x := by rfl) (hdb : (x == ("__debug__" : Str)) = false := by decide)
    (he : starEach (e :: es) X.env = (false, eval e X.env) :: starEach es X.env := by rfl) (hpl : (backTo pos (starEach es X.env)).any (·.1) = false := by rfl) : PD X g (.Call (.Name x p) (e :: es) [] pos) (dCall sp ex t) := by
  obtain ⟨f, fd, ps, hm, hkp, hb, F⟩ := c.ex
  refine ⟨fun pins s σ H Q I ⟨δ, st, q, cf, h, kk⟩ => ?_⟩
  refine wpAny_Call_Name_kw (ld_glob I hg hm ?_ hdb)
  refine PySem.W.callWith_K (h₀ := X.base) I.ok.mod.kin hkp (thn (ha.run pos pins s σ H (fun vs H1 => ∃ ds st1, Le H H1 ∧ Reps X.K H1 ds vs ∧ Cfg X.K g δ st1 σ H1 ∧ sp ds st1 q fun x st2 => ex x δ st2) I (lbA cf h fun ds st1 vs H1 l1 r1 c1 z => ⟨ds, st1, l1, r1, c1, z⟩)) fun us s1 ⟨vs, H1, I1, r, ds, st1, l1, r1, c1, z⟩ => ⟨I1.kIn, ?_⟩) he hpl
  refine run_g (E := fun cls d H' => wx X.K g ex cls d σ H') F (C.room.mono hk) (fun z => C.gd (hgd z)) hb (fun u s' hc => C.tk u s' (XE.of_call I1 (fun _ _ _ w => w) hc)) I1 r ⟨ds, st1, q, _, r1, c1.sr, z, kq_of l1 kk, fun x st' cls dd H' l xr s z => ⟨x, δ, st', c1.go l s, xr, z⟩⟩
theorem pd_call0 (C : Ce X g gb j ex) (c : CalG X.prog X.w X.K X.mg X.base g.T gc k x sp) (hk : k ≤ j) (hgd : gc = true → gb = true) (hg : Gl X x := by rfl) (hdb : (x == ("__debug__" : Str)) = false := by decide) : PD X g (.Call (.Name x p) [] [] pos) (dCall sp ex dNil) := by
  obtain ⟨f, fd, ps, hm, hkp, hb, F⟩ := c.ex
  refine ⟨fun pins s σ H Q I ⟨δ, st, q, cf, h, kk⟩ => ?_⟩
  refine wpAny_Call_Name_kw (ld_glob I hg hm ?_ hdb)
  exact PySem.W.callWith_K0 I.kIn hkp (run_g (us := []) (vs := []) (E := fun cls d H' => wx X.K g ex cls d σ H') F (C.room.mono hk) (fun z => C.gd (hgd z)) hb (fun u s' hc => C.tk u s' (XE.of_call I (fun _ _ _ w => w) hc)) I .nil ⟨[], st, q, _, .nil, cf.sr, h, kk, fun x st' cls dd H' l xr s z => ⟨x, δ, st', cf.go l s, xr, z⟩⟩)
end
/-- the names at the entry -/
def dstart (N : List Str) (ds : List D) : DEnv := ds.map some ++ List.replicate (N.length - ds.length) none
theorem er_start {K : PySem.W.Frag} {H : Hp} {N : List Str} {ds : List D} {vs : List V} (r : Reps K H ds vs) : ER K H (dstart N ds) (L2.start N vs) := by
  have hl := r.length
  refine ⟨by unfold dstart L2.start; simp [hl], fun i d h => ?_⟩
  unfold dstart at h
  by_cases hi : i < ds.length
  · rw [List.getElem?_append_left (by simpa using hi), List.getElem?_map] at h
    cases e : ds[i]? with
    | none => rw [e] at h; cases h
    | some d' =>
      rw [e] at h
      cases h
      obtain ⟨v, e1, e2⟩ := r.get e
      refine ⟨v, ?_, e2⟩
      unfold L2.start
      rw [List.getElem?_append_left (by simpa [← hl] using hi), List.getElem?_map, e1] <;> rfl
  · rw [List.getElem?_append_right (by simpa using hi), List.getElem?_replicate] at h
    split at h <;> cases h
abbrev bodyCx (P : Program) (w : World) (K : PySem.W.Frag) (mg : Str → Option Value) (base : Heap) (N : List Str) (qual : Str) (scope : Scope) (f : Addr) (cd : Value) (A : Around) (outer : List PySem.Env) (s : Shared) (H : Hp) (E : XK) : Cx := cxOf (L2.CX P w) P w K mg base N qual scope f cd A outer s H E
theorem ct_of {P : Program} {w : World} {K : PySem.W.Frag} {mg : Str → Option Value} {base : Heap} {N ps : List Str} {qual : Str} {scope : Scope} {f : Addr} {cd : Value} {A : Around} {outer : List PySem.Env} {s : Shared} {H : Hp} {E : XK} {T : List (Addr × Str)} {gb : Bool} {k : Nat} {ex : DX} (S : FnScope N ps scope) (hr : Room k (A.deeper (PyProof.Rows.envOfC qual scope s.heap.objs.size f cd))) (gd : gb = true → A.guards = some [])
    (hE : ∀ x st' cls dd H', Le H H' → XR K H' x cls dd → SR K T st' H' → ex x st' → E cls dd H') : Ct (bodyCx P w K mg base N qual scope f cd A outer s H E) ⟨T, H⟩ gb k (fun x _ st => ex x st) :=
  ⟨⟨hr, gd, rfl, S.nd, (takes_of rfl rfl rfl rfl).imp fun c d σ H' ⟨x, δ, st, cf, xr, z⟩ => hE x st c d H' cf.le xr cf.sr z⟩, passes_of rfl⟩
/-- THE RULE: a def keeps its promise by its body's reading -/
theorem fg_of {P : Program} {w : World} {K : PySem.W.Frag} {mg : Str → Option Value} {base : Heap} {T : List (Addr × Str)} {gb : Bool} {k : Nat} {f : Addr} {name qual : Str} {params : Arguments} {body : List Stmt} {scope : Scope} {dV kV doc pm cdv ct oc : Value} {an od : Option Addr}
    {osl : Array (Option Value)} {N ps : List Str} {sp : DSp} (lk : K.lookup f = some ⟨oc, od, .func (PySem.W.fnOf name qual params body scope dV kV doc pm an cdv ct), osl⟩) (hcd : PySem.W.codeIn K cdv qual = true) (S : FnScope N ps scope)
    (len : ∀ ds st q ex, sp ds st q ex → ds.length = ps.length) (t : DXE → DS)
    (hbody : ∀ (A : Around) (outer : List PySem.Env) (s : Shared) (H : Hp) (E : XK) (ex : DXE), Ct (bodyCx P w K mg base N qual scope f cdv A outer s H E) ⟨T, H⟩ gb k ex → PDSs (bodyCx P w K mg base N qual scope f cdv A outer s H E) ⟨T, H⟩ body (t ex))
    (pure_ : ∀ ds st q ex, sp ds st q ex → t (fun x _ st => ex x st) { nx := fun _ st' => q .non st', rt := q } (dstart N ds) st) :
    FG P w K mg base T gb (k + 1) f (PySem.W.fnOf name qual params body scope dV kV doc pm an cdv ct) ps sp := by
  refine ⟨len, fun A outer s H args us vs Q E hr gd e0 hb r ⟨ds, st, q, ex, rr, S0, hsp, kq, kx⟩ => ?_⟩
  have hl : vs.length = ps.length := by rw [← rr.length]; exact len _ _ _ _ hsp
  have kin : K.In s.heap := e0.mod.kin.keeps fun b o z => (e0.bs b o z).1
  have kinds : ∀ y ∈ ps.zip us, scope.names.lookup y.1 = some .local ∨ (scope.names.lookup y.1 = some .cell ∧ ((cellsFrom (s.heap.objs.size + 1) scope.names []).lookup y.1).isSome = true) := fun y hy =>
    (S.par y.1 (List.of_mem_zip (show (y.1, y.2) ∈ ps.zip us from hy)).1).imp id fun z => ⟨z, PySem.W.cellsFrom_some _ _ _ (.inl z)⟩
  refine codeAny_call_function hr.depth (kin f _ lk) rfl S.co S.gen rfl (PySem.W.codeRec_of kin hcd) (hb _ _ _ _ (wpAny_newFunctionEnv_cells S.kind kinds fun env he s1 x => ?_))
  subst he
  have lim : s1.heap.NoLimit := (e0.mod.nolimit.keeps fun b o z => (e0.bs b o z).1).keeps x.toInCall.keep
  refine ⟨lim, codeAny_func ?_⟩
  have I : Inv (bodyCx P w K mg base N qual scope f cdv A outer s H E) [] (L2.start N vs) H s1 := inv_start S hr.hd e0 hl r x
  have C := ct_of (E := E) (ex := ex) (mg := mg) (base := base) (outer := outer) (f := f) (cd := cdv) (qual := qual) (s := s) (T := T) (P := P) (w := w) S (hr.deeper (PyProof.Rows.envOfC qual scope s.heap.objs.size f cdv)) gd kx
  have hB := hbody A outer s H E _ C
  refine wpAny_mono (hB.run [] s1 (L2.start N vs) H { nx := fun _ H' => Q .non H', rt := Q } I ⟨dstart N ds, st, _, ⟨Le.refl, er_start rr, S0⟩, pure_ ds st q ex hsp, ?_⟩) (fun fl s' hs => ?_) fun _ _ z => z
  · exact ⟨fun δ st σ H' l c z => kq _ st .non H' l .non c.sr z, fun d st v H' l _ r s z => kq d st v H' l r s z, fun _ _ _ _ _ _ z => z, fun _ _ _ _ _ _ z => z⟩
  · have out : ∀ {σ' : L2.St} {H' : Hp} {v : V} {u : Value}, Inv (bodyCx P w K mg base N qual scope f cdv A outer s H E) [] σ' H' s' → RelV v u → Q v H' → CE outer P w H s Q u s' :=
      fun {σ' H' v u} J rv z => ⟨v, H', J.os, J.bare, J.base, J.hok, rv, z⟩
    match fl, hs with
    | .ret u, ⟨v, σ', H', J, rv, z⟩ => exact out J rv z
    | .next, ⟨σ', H', J, z⟩ => exact out (v := V.non) (u := Value.none) J rfl z
    | .brk, ⟨_, _, _, z⟩ => exact z.elim
    | .cont, ⟨_, _, _, z⟩ => exact z.elim
end DL
/-! DL5: operators, subscripts, built-in functions and methods by deep values. -/
namespace DL
open PySem PySem.Spec L2
section
variable {X : Cx} {g : GC}
def oAdd : O2
  | .int i, .int j => fun st q => q (.int (i + j)) st
  | .str i, .str j => fun st q => i.length + j.length ≤ sizeLine ∧ q (.str (i ++ j)) st
  | .tup xs, .tup ys => fun st q => xs.length + ys.length ≤ sizeLine ∧ q (.tup (xs ++ ys)) st
  | .ref a, .ref b => fun st q => ∃ xs ys, st a = some (.lst xs) ∧ st b = some (.lst ys) ∧ xs.length + ys.length ≤ sizeLine ∧ ∀ p, st p = none → q (.ref p) (put st p (.lst (xs ++ ys)))
  | _, _ => fun _ _ => False
theorem reps_nil {K : PySem.W.Frag} {H : Hp} {ds : List D} (r : Reps K H ds []) : ds = [] := by cases r; rfl
theorem reps_nilD {K : PySem.W.Frag} {H : Hp} {vs : List V} (r : Reps K H [] vs) : vs = [] := by cases r; rfl
theorem opd_add : OpD X g (binaryOp .Add) oAdd := OpD.of fun a b x y st H q Q ra rb S ho k => by
  cases ra with
  | int => cases rb with
    | int => exact ⟨_, op_add, _, _, rfl, rfl, k.here S .int ho⟩
    | _ => exact False.elim ho
  | str => cases rb with
    | str => exact ⟨_, op_add_str, _, _, rfl, rfl, ho.1, k.here S .str ho.2⟩
    | _ => exact False.elim ho
  | @tup a xs vs ha r1 => cases rb with
    | @tup b ys us hb r2 =>
      refine ⟨_, op_catA, a, b, vs, us, rfl, rfl, SqT.of ha, SqT.of hb, by rw [← r1.length, ← r2.length]; exact ho.1, fun e => ?_, fun _ e => ?_, fun _ _ p np => ?_⟩
      · subst e
        have e2 := reps_nil r1
        subst e2
        exact k.here S (.tup hb r2) ho.2
      · subst e
        have e2 := reps_nil r2
        subst e2
        have ho2 := ho.2
        rw [List.append_nil] at ho2
        exact k.here S (.tup ha r1) ho2
      · exact k.tup S (r1.append r2) ho.2 np
    | _ => exact False.elim ho
  | ref => cases rb with
    | ref =>
      obtain ⟨xs, ys, ha, hb, hl, ho⟩ := ho
      obtain ⟨vs, h1, r1⟩ := S.obj _ _ ha
      obtain ⟨us, h2, r2⟩ := S.obj _ _ hb
      exact ⟨_, op_cat, _, _, vs, us, rfl, rfl, h1, h2, by rw [← r1.length, ← r2.length]; exact hl, fun p np => k.lst S (r1.append r2) ho np⟩
    | _ => exact False.elim ho
  | _ => exact False.elim ho
def oI2 (C : Int → Int → Prop) (f : Int → Int → D) : O2
  | .int i, .int j => fun st q => C i j ∧ q (f i j) st
  | _, _ => fun _ _ => False
theorem opd_i2 {F : Value → Value → Sem Value} {C : Int → Int → Prop} {f : Int → Int → D} {fv : Int → Int → V} (h : OpR X F (rI C fv)) (r : ∀ i j H, Rep X.K H (f i j) (fv i j)) : OpD X g F (oI2 C f) := OpD.of fun a b x y st H q Q ra rb S ho k => by
  cases ra with
  | int => cases rb with
    | int => exact ⟨_, h, _, _, rfl, rfl, ho.1, k.here S (r _ _ _) ho.2⟩
    | _ => exact False.elim ho
  | _ => exact False.elim ho
theorem opd_i0 {F : Value → Value → Sem Value} {f : Int → Int → D} {fv : Int → Int → V} (h : OpR X F (rI0 fv)) (r : ∀ i j H, Rep X.K H (f i j) (fv i j)) : OpD X g F (oI2 (fun _ _ => True) f) := OpD.of fun a b x y st H q Q ra rb S ho k => by
  cases ra with
  | int => cases rb with
    | int => exact ⟨_, h, _, _, rfl, rfl, k.here S (r _ _ _) ho.2⟩
    | _ => exact False.elim ho
  | _ => exact False.elim ho
abbrev oSub : O2 := oI2 (fun _ _ => True) fun i j => .int (i - j)
theorem opd_sub : OpD X g (binaryOp .Sub) oSub := opd_i0 op_sub fun _ _ _ => .int
abbrev oMod : O2 := oI2 (fun _ j => 0 < j) fun i j => .int (i % j)
theorem opd_mod : OpD X g (binaryOp .Mod) oMod := opd_i2 op_mod fun _ _ _ => .int
abbrev oFdiv : O2 := oI2 CDivW fun i j => .int (i / j)
theorem opd_fdiv : OpD X g (binaryOp .FloorDiv) oFdiv := opd_i2 op_fdivW fun _ _ _ => .int
abbrev oPow : O2 := oI2 CPow fun i j => .int (i ^ j.toNat)
theorem opd_pow : OpD X g (binaryOp .Pow) oPow := opd_i2 op_pow fun _ _ _ => .int
/-- *: two ints; a list, a tuple so often -/
def oMul : O2
  | .int i, .int j => fun st q => (CMul i j ∨ CMulW i j) ∧ q (.int (i * j)) st
  | .ref a, .int j => fun st q => ∃ xs, st a = some (.lst xs) ∧ -(2 ^ 63) ≤ j ∧ j < 2 ^ 63 ∧ xs.length * j.toNat ≤ sizeLine ∧ ∀ p, st p = none → q (.ref p) (put st p (.lst (List.replicate j.toNat xs).flatten))
  | .tup xs, .int j => fun st q => xs ≠ [] ∧ 2 ≤ j ∧ j ≤ 1000 ∧ xs.length ≤ 1000 ∧ q (.tup (List.replicate j.toNat xs).flatten) st
  | _, _ => fun _ _ => False
theorem Reps.rep {K : PySem.W.Frag} {H : Hp} {ds : List D} {vs : List V} (r : Reps K H ds vs) : ∀ n : Nat, Reps K H (List.replicate n ds).flatten (List.replicate n vs).flatten
  | 0 => .nil
  | n + 1 => by
    rw [List.replicate_succ, List.replicate_succ, List.flatten_cons, List.flatten_cons]
    exact r.append (Reps.rep r n)
theorem opd_mul : OpD X g (binaryOp .Mult) oMul := OpD.of fun a b x y st H q Q ra rb S ho k => by
  cases ra with
  | int => cases rb with
    | int =>
      rcases ho.1 with h | h
      · exact ⟨_, op_mul, _, _, rfl, rfl, h, k.here S .int ho.2⟩
      · exact ⟨_, op_mulW, _, _, rfl, rfl, h, k.here S .int ho.2⟩
    | _ => exact False.elim ho
  | ref => cases rb with
    | int =>
      obtain ⟨xs, ha, h1, h2, hl, ho⟩ := ho
      obtain ⟨vs, e1, r1⟩ := S.obj _ _ ha
      exact ⟨_, op_rep, _, _, vs, rfl, rfl, e1, h1, h2, by rw [← r1.length]; exact hl, fun p np => k.lst S (r1.rep _) ho np⟩
    | _ => exact False.elim ho
  | @tup a xs vs ha r1 => cases rb with
    | int =>
      obtain ⟨h1, h2, h3, h4, ho⟩ := ho
      exact ⟨_, op_repT, a, _, vs, rfl, rfl, SqT.of ha, fun e => h1 (by subst e; exact reps_nil r1), h2, h3, by rw [← r1.length]; exact h4, fun p np => k.tup S (r1.rep _) ho np⟩
    | _ => exact False.elim ho
  | _ => exact False.elim ho
/-! ### comparisons -/
def oCmp (p : Int → Int → Bool) (ps : Str → Str → Bool) : O2
  | .int i, .int j => fun st q => q (.bl (p i j)) st
  | .str i, .str j => fun st q => q (.bl (ps i j)) st
  | _, _ => fun _ _ => False
theorem opd_cmp {F : Value → Value → Sem Value} {p : Int → Int → Bool} {ps : Str → Str → Bool} (h : OpR X F (rI0 fun i j => .bl (p i j))) (h2 : OpR X F (fun x y H Q => ∃ i j, x = .str i ∧ y = .str j ∧ Q (.bl (ps i j)) H)) : OpD X g F (oCmp p ps) := OpD.of fun a b x y st H q Q ra rb S ho k => by
  cases ra with
  | int => cases rb with
    | int => exact ⟨_, h, _, _, rfl, rfl, k.here S .bl ho⟩
    | _ => exact False.elim ho
  | str => cases rb with
    | str => exact ⟨_, h2, _, _, rfl, rfl, k.here S .bl ho⟩
    | _ => exact False.elim ho
  | _ => exact False.elim ho
abbrev oLt : O2 := oCmp (fun i j => decide (i < j)) fun i j => decide (i.cps.toList < j.cps.toList)
abbrev oLe : O2 := oCmp (fun i j => decide (i ≤ j)) fun i j => !decide (j.cps.toList < i.cps.toList)
abbrev oGt : O2 := oCmp (fun i j => decide (j < i)) fun i j => decide (j.cps.toList < i.cps.toList)
abbrev oGe : O2 := oCmp (fun i j => decide (j ≤ i)) fun i j => !decide (i.cps.toList < j.cps.toList)
theorem opd_lt : OpD X g (compareOp .Lt) oLt := opd_cmp op_lt op_lt_str
theorem opd_le : OpD X g (compareOp .LtE) oLe := opd_cmp op_le op_le_str
theorem opd_gt : OpD X g (compareOp .Gt) oGt := opd_cmp op_gt op_gt_str
theorem opd_ge : OpD X g (compareOp .GtE) oGe := opd_cmp op_ge op_ge_str
/-- ==, != of ints, texts, bools, None -/
def eqS : D → D → Option Bool
  | .non, .non => some true
  | .non, .int _ => some false
  | .int _, .non => some false
  | .non, .bl _ => some false
  | .bl _, .non => some false
  | .non, .str _ => some false
  | .str _, .non => some false
  | .int i, .int j => some (decide (i = j))
  | .bl i, .bl j => some (decide (i = j))
  | .str i, .str j => some (decide (i = j))
  | .int _, .str _ => some false
  | .str _, .int _ => some false
  | .bl _, .str _ => some false
  | .str _, .bl _ => some false
  | _, _ => none
theorem eqS_run {K : PySem.W.Frag} {H : Hp} {a b : D} {x y : V} {r : Bool} (ra : Rep K H a x) (rb : Rep K H b y) (h : eqS a b = some r) : scal x y = true ∧ decide (x = y) = r := by
  cases ra <;> cases rb <;> first | (cases h; done) | (simp only [eqS, Option.some.injEq] at h; subst h; refine ⟨rfl, ?_⟩; simp)
/-- whether two deep values are data without dicts -/
inductive Dt (st : Stt) : D → PyData → Prop where
  | non : Dt st .non .none
  | bl {b : Bool} : Dt st (.bl b) (.bool b)
  | int {i : Int} : Dt st (.int i) (.int i)
  | str {x : Str} : Dt st (.str x) (.str x)
  | tup {ds : List D} {es : List PyData} : (∀ e ∈ List.zip ds es, Dt st e.1 e.2) → ds.length = es.length → Dt st (.tup ds) (.tuple es)
  | lst {a : Addr} {ds : List D} {es : List PyData} : st a = some (.lst ds) → (∀ e ∈ List.zip ds es, Dt st e.1 e.2) → ds.length = es.length → Dt st (.ref a) (.list es)
theorem dpAll {K : PySem.W.Frag} {H : Hp} : ∀ {ds : List D} {es : List PyData} {vs : List V}, ds.length = es.length → Reps K H ds vs → (∀ e ∈ List.zip ds es, ∀ v, Rep K H e.1 v → Dp K H v e.2) → DpAll K H vs es
  | [], [], _, _, .nil, _ => .nil
  | d :: ds, e :: es, _, hl, .cons r rr, ih => .cons (ih (d, e) (by simp) _ r) (dpAll (by simpa using hl) rr fun e' h => ih e' (by simp [h]))
theorem Dt.dp {K : PySem.W.Frag} {T : List (Addr × Str)} {H : Hp} {st : Stt} (S : SR K T st H) {d : D} {e : PyData} (h : Dt st d e) : ∀ v, Rep K H d v → Dp K H v e := by
  induction h with
  | non => intro v r; cases r; exact .non
  | bl => intro v r; cases r; exact .bl _
  | int => intro v r; cases r; exact .int _
  | str => intro v r; cases r; exact .str _
  | tup h hl ih => intro v r; cases r with | tup ha r1 => exact .tup (SqT.of ha) (dpAll hl r1 ih)
  | lst ha h hl ih =>
    intro v r
    cases r
    obtain ⟨vs, e1, r1⟩ := S.obj _ _ ha
    exact .lst (SqL.of e1) (dpAll hl r1 ih)
/-- == of anything here: flat values, or data without dicts -/
def oEqB (neg : Bool) : O2 := fun a b st q => (∃ r, eqS a b = some r ∧ q (.bl (neg ^^ r)) st) ∨ ∃ d e, Dt st a d ∧ Dt st b e ∧ SeqAt.shaped d = true ∧ SeqAt.shaped e = true ∧ q (.bl (neg ^^ PyData.eqv d e)) st
theorem opd_eq (hu : X.A.units + 64 < cLine) : OpD X g (compareOp .Eq) (oEqB false) := OpD.of fun a b x y st H q Q ra rb S ho k => by
  rcases ho with ⟨r, e, ho⟩ | ⟨d, e, h1, h2, h3, h4, ho⟩
  · obtain ⟨h1, h2⟩ := eqS_run ra rb e
    refine ⟨_, op_eq, h1, ?_⟩
    rw [h2]
    exact k.here S .bl (by simpa using ho)
  · exact ⟨_, op_eqD hu, d, e, h1.dp S x ra, h2.dp S y rb, h3, h4, k.here S .bl (by simpa using ho)⟩
theorem opd_ne (hu : X.A.units + 64 < cLine) : OpD X g (compareOp .NotEq) (oEqB true) := OpD.of fun a b x y st H q Q ra rb S ho k => by
  rcases ho with ⟨r, e, ho⟩ | ⟨d, e, h1, h2, h3, h4, ho⟩
  · obtain ⟨h1, h2⟩ := eqS_run ra rb e
    refine ⟨_, op_ne, h1, ?_⟩
    rw [h2]
    exact k.here S .bl (by simpa using ho)
  · exact ⟨_, op_neD hu, d, e, h1.dp S x ra, h2.dp S y rb, h3, h4, k.here S .bl (by simpa using ho)⟩
/-- is, is not: of two bools, of None -/
def oIs (neg : Bool) : O2
  | .bl i, .bl j => fun st q => q (.bl (neg ^^ decide (i = j))) st
  | .non, .non => fun st q => q (.bl (neg ^^ true)) st
  | .int _, .non => fun st q => q (.bl (neg ^^ false)) st
  | .str _, .non => fun st q => q (.bl (neg ^^ false)) st
  | .tup _, .non => fun st q => q (.bl (neg ^^ false)) st
  | .ref _, .non => fun st q => q (.bl (neg ^^ false)) st
  | .bl _, .non => fun st q => q (.bl (neg ^^ false)) st
  | _, _ => fun _ _ => False
theorem opd_is : OpD X g (compareOp .Is) (oIs false) := OpD.of fun a b x y st H q Q ra rb S ho k => by
  cases rb with
  | bl => cases ra with
    | bl => exact ⟨_, op_isBl, _, _, rfl, rfl, k.here S .bl (by simpa [oIs] using ho)⟩
    | _ => exact False.elim ho
  | non => cases ra with
    | non => exact ⟨_, op_isN, rfl, k.here S .bl (by simpa [oIs] using ho)⟩
    | int => exact ⟨_, op_isN, rfl, k.here S .bl (by simpa [oIs] using ho)⟩
    | str => exact ⟨_, op_isN, rfl, k.here S .bl (by simpa [oIs] using ho)⟩
    | tup => exact ⟨_, op_isN, rfl, k.here S .bl (by simpa [oIs] using ho)⟩
    | ref => exact ⟨_, op_isN, rfl, k.here S .bl (by simpa [oIs] using ho)⟩
    | bl => exact ⟨_, op_isN, rfl, k.here S .bl (by simpa [oIs] using ho)⟩
    | _ => exact False.elim ho
  | _ => cases ra <;> exact False.elim ho
theorem opd_isNot : OpD X g (compareOp .IsNot) (oIs true) := OpD.of fun a b x y st H q Q ra rb S ho k => by
  cases rb with
  | bl => cases ra with
    | bl => exact ⟨_, op_notBl, _, _, rfl, rfl, k.here S .bl (by simpa [oIs] using ho)⟩
    | _ => exact False.elim ho
  | non => cases ra with
    | non => exact ⟨_, op_notN, rfl, k.here S .bl (by simpa [oIs] using ho)⟩
    | int => exact ⟨_, op_notN, rfl, k.here S .bl (by simpa [oIs] using ho)⟩
    | str => exact ⟨_, op_notN, rfl, k.here S .bl (by simpa [oIs] using ho)⟩
    | tup => exact ⟨_, op_notN, rfl, k.here S .bl (by simpa [oIs] using ho)⟩
    | ref => exact ⟨_, op_notN, rfl, k.here S .bl (by simpa [oIs] using ho)⟩
    | bl => exact ⟨_, op_notN, rfl, k.here S .bl (by simpa [oIs] using ho)⟩
    | _ => exact False.elim ho
  | _ => cases ra <;> exact False.elim ho
/-! ### in -/
def flatD : D → Bool
  | .non => true
  | .bl _ => true
  | .int _ => true
  | .str _ => true
  | _ => false
def eqF : D → D → Bool
  | .non, .non => true
  | .bl a, .bl b => a == b
  | .bl a, .int b => (if a then 1 else 0) == b
  | .int a, .bl b => a == (if b then 1 else 0)
  | .int a, .int b => a == b
  | .str a, .str b => a == b
  | _, _ => false
theorem flat_run {K : PySem.W.Frag} {H : Hp} {a : D} {x : V} (r : Rep K H a x) (h : flatD a = true) : flatV x = true := by
  cases r <;> first | rfl | cases h
theorem eqF_run {K : PySem.W.Frag} {H : Hp} {a b : D} {x y : V} (ra : Rep K H a x) (rb : Rep K H b y) (ha : flatD a = true) (hb : flatD b = true) : eqV x y = eqF a b := by
  cases ra <;> cases rb <;> first | rfl | cases ha | cases hb
theorem flat_all {K : PySem.W.Frag} {H : Hp} : ∀ {ds : List D} {vs : List V}, Reps K H ds vs → ds.all flatD = true → vs.all flatV = true
  | _, _, .nil, _ => rfl
  | _, _, .cons r rr, h => by
    rw [List.all_cons, Bool.and_eq_true] at h ⊢
    exact ⟨flat_run r h.1, flat_all rr h.2⟩
theorem inF_run {K : PySem.W.Frag} {H : Hp} {a : D} {x : V} (ra : Rep K H a x) (ha : flatD a = true) : ∀ {ds : List D} {vs : List V}, Reps K H ds vs → ds.all flatD = true → inV x vs = ds.any fun y => eqF y a
  | _, _, .nil, _ => rfl
  | _, _, @Reps.cons _ _ d v ds vs r rr, h => by
    rw [List.all_cons, Bool.and_eq_true] at h
    have ih := inF_run ra ha rr h.2
    unfold inV at ih ⊢
    rw [List.any_cons, List.any_cons, ih, eqF_run r ra h.1 ha]
/-- a dict's key -/
def dK : Key → D
  | .inl i => .int i
  | .inr x => .str x
/-- y is the key k -/
def keyD : D → Option Key
  | .int i => some (.inl i)
  | .str x => some (.inr x)
  | _ => none
def keysD : List D → Option (List Key)
  | [] => some []
  | d :: ds => match keyD d, keysD ds with
    | some k, some ks => some (k :: ks)
    | _, _ => none
def keyT : D → Option (List Key)
  | .tup ds => keysD ds
  | _ => none
theorem keyD_run {K : PySem.W.Frag} {H : Hp} {d : D} {v : V} {k : Key} (r : Rep K H d v) (h : keyD d = some k) : v = kV k := by
  cases r <;> first | (cases h; done) | (simp only [keyD, Option.some.injEq] at h; subst h; rfl)
theorem keysD_run {K : PySem.W.Frag} {H : Hp} : ∀ {ds : List D} {vs : List V} {ks : List Key}, Reps K H ds vs → keysD ds = some ks → vs = ks.map kV
  | _, _, _, .nil, h => by cases h; rfl
  | _, _, _, @Reps.cons _ _ d v ds vs r rr, h => by
    unfold keysD at h
    split at h
    · rename_i k ks h1 h2
      cases h
      rw [List.map_cons, keyD_run r h1, keysD_run rr h2]
    · cases h
theorem keyT_run {K : PySem.W.Frag} {H : Hp} {d : D} {v : V} {k : List Key} (r : Rep K H d v) (h : keyT d = some k) : ∃ b, v = .ref b ∧ H b = some (.tup (k.map kV)) := by
  cases r with
  | tup ha r1 =>
    rw [keysD_run r1 h] at ha
    exact ⟨_, rfl, ha⟩
  | _ => cases h
/-- the value at a key -/
def valD {κ : Type} [DecidableEq κ] : List (κ × D) → κ → Option D
  | [], _ => none
  | (k', d) :: r, k => if k' = k then some d else valD r k
theorem valD_run {κ : Type} [DecidableEq κ] {K : PySem.W.Frag} {H : Hp} {k : κ} : ∀ {kvs : List (κ × D)} {kvs' : List (κ × V)}, KR K H kvs kvs' → (∀ d, valD kvs k = some d → ∃ v, valV kvs' k = some v ∧ Rep K H d v) ∧ (valD kvs k = none → valV kvs' k = none)
  | [], [], _ => ⟨(fun d h => nomatch h), fun _ => rfl⟩
  | [], _ :: _, h => by cases h.1
  | _ :: _, [], h => by cases h.1
  | (k1, d1) :: r, (k2, v2) :: r', h => by
    have e : k1 = k2 := by have := h.1; simp at this; exact this.1
    subst e
    have hr : KR K H r r' ∧ Rep K H d1 v2 := by
      obtain ⟨h1, h2⟩ := h
      cases h2 with
      | cons a b => exact ⟨⟨by simpa using h1, b⟩, a⟩
    have ih := valD_run (k := k) hr.1
    by_cases hk : k1 = k
    · subst hk
      refine ⟨fun d h => ?_, fun h => ?_⟩
      · simp only [valD, if_true] at h
        cases h
        exact ⟨v2, by simp [valV], hr.2⟩
      · simp only [valD, if_true] at h
        cases h
    · refine ⟨fun d h => ?_, fun h => ?_⟩
      · simp only [valD, if_neg hk] at h
        obtain ⟨v, e1, e2⟩ := ih.1 d h
        exact ⟨v, by simpa [valV, hk] using e1, e2⟩
      · simp only [valD, if_neg hk] at h
        have := ih.2 h
        simpa [valV, hk] using this
end
end DL
/-! DL6: in, subscripts, stores, built-ins, methods. -/
namespace DL
open PySem PySem.Spec L2
section
variable {X : Cx} {g : GC}
/-! ### dicts: in, get, put -/
def inAt {κ : Type} [DecidableEq κ] (neg : Bool) (kvs : List (κ × D)) (k : κ) (q : DQ) (st : Stt) : Prop := q (.bl (neg ^^ (valD kvs k).isSome)) st
def oIn (neg : Bool) (a b : D) (st : Stt) (q : DQ) : Prop :=
  (∃ ys, b = .tup ys ∧ flatD a = true ∧ ys.all flatD = true ∧ q (.bl (neg ^^ ys.any fun y => eqF y a)) st) ∨
  (∃ i j, a = .str i ∧ b = .str j ∧ q (.bl (neg ^^ !(Builtin.Str.occurrences j i 0 j.length 1).isEmpty)) st) ∨
  ∃ p, b = .ref p ∧ ((∃ ys, st p = some (.lst ys) ∧ flatD a = true ∧ ys.all flatD = true ∧ q (.bl (neg ^^ ys.any fun y => eqF y a)) st) ∨
    (∃ kvs k, st p = some (.dK kvs) ∧ keyD a = some k ∧ inAt neg kvs k q st) ∨ ∃ kvs k, st p = some (.dT kvs) ∧ keyT a = some k ∧ inAt neg kvs k q st)
theorem dget_K {K : PySem.W.Frag} {H : Hp} {a : D} {y : V} {p : Addr} {kvs : List (Key × D)} {k : Key} (r : Rep K H a y) (h : ORep K H p (.dK kvs)) (e : keyD a = some k) : (∀ d, valD kvs k = some d → ∃ v, DGet H p y (some v) ∧ Rep K H d v) ∧ (valD kvs k = none → DGet H p y none) := by
  obtain ⟨kvs', e1, kr⟩ := h
  have ey := keyD_run r e
  subst ey
  obtain ⟨h1, h2⟩ := valD_run (k := k) kr
  refine ⟨fun d hd => ?_, fun hd => ?_⟩
  · obtain ⟨v, e2, rv⟩ := h1 d hd
    exact ⟨v, by rw [← e2]; exact DGet.k e1, rv⟩
  · rw [← h2 hd]; exact DGet.k e1
theorem dget_T {K : PySem.W.Frag} {H : Hp} {a : D} {y : V} {p : Addr} {kvs : List (List Key × D)} {k : List Key} (r : Rep K H a y) (h : ORep K H p (.dT kvs)) (e : keyT a = some k) : (∀ d, valD kvs k = some d → ∃ v, DGet H p y (some v) ∧ Rep K H d v) ∧ (valD kvs k = none → DGet H p y none) := by
  obtain ⟨kvs', e1, kr⟩ := h
  obtain ⟨b, ey, eb⟩ := keyT_run r e
  subst ey
  obtain ⟨h1, h2⟩ := valD_run (k := k) kr
  refine ⟨fun d hd => ?_, fun hd => ?_⟩
  · obtain ⟨v, e2, rv⟩ := h1 d hd
    exact ⟨v, by rw [← e2]; exact DGet.t e1 eb, rv⟩
  · rw [← h2 hd]; exact DGet.t e1 eb
theorem op_inDict (hu : X.A.units + 1 < cLine) : OpR X (compareOp .In) (fun y x H Q => ∃ a o, x = .ref a ∧ DGet H a y o ∧ Q (.bl o.isSome) H) := by
  intro pins s σ H y x u v Q I ry rx ⟨a, o, ex, hd, hq⟩
  subst ex
  cases rx
  exact d_in hu I hd ry fun s' I' => ⟨.bl o.isSome, H, I', rfl, hq⟩
theorem op_notInDict (hu : X.A.units + 1 < cLine) : OpR X (compareOp .NotIn) (fun y x H Q => ∃ a o, x = .ref a ∧ DGet H a y o ∧ Q (.bl (!o.isSome)) H) := by
  intro pins s σ H y x u v Q I ry rx ⟨a, o, ex, hd, hq⟩
  subst ex
  cases rx
  exact d_notIn hu I hd ry fun s' I' => ⟨.bl (!o.isSome), H, I', rfl, hq⟩
theorem opd_in (hu : X.A.units + 1 < cLine) : OpD X g (compareOp .In) (oIn false) := OpD.of fun a b x y st H q Q ra rb S ho k => by
  rcases ho with ⟨ys, e, f1, f2, ho⟩ | ⟨i, j, e1, e2, ho⟩ | ⟨p, e, ho⟩
  · subst e
    cases rb with
    | tup hb r2 =>
      refine ⟨_, op_in_seq, _, _, rfl, .inr (SqT.of hb), flat_run ra f1, flat_all r2 f2, ?_⟩
      rw [if_neg Bool.false_ne_true, inF_run ra f1 r2 f2]
      exact k.here S .bl (by simpa using ho)
  · subst e1 e2
    cases ra
    cases rb
    exact ⟨_, op_in_str, _, _, rfl, rfl, k.here S .bl (by simpa using ho)⟩
  · subst e
    cases rb
    rcases ho with ⟨ys, e, f1, f2, ho⟩ | ⟨kvs, kk, e, ek, ho⟩ | ⟨kvs, kk, e, ek, ho⟩
    · obtain ⟨vs, e1, r2⟩ := S.obj _ _ e
      refine ⟨_, op_in_seq, _, _, rfl, .inl (SqL.of e1), flat_run ra f1, flat_all r2 f2, ?_⟩
      rw [if_neg Bool.false_ne_true, inF_run ra f1 r2 f2]
      exact k.here S .bl (by simpa using ho)
    all_goals
      unfold inAt at ho
    · obtain ⟨h1, h2⟩ := dget_K ra (S.obj _ _ e) ek
      cases hv : valD kvs kk with
      | some d =>
        obtain ⟨v, hd, _⟩ := h1 d hv
        exact ⟨_, op_inDict hu, _, _, rfl, hd, k.here S .bl (by simpa [hv] using ho)⟩
      | none => exact ⟨_, op_inDict hu, _, _, rfl, h2 hv, k.here S .bl (by simpa [hv] using ho)⟩
    · obtain ⟨h1, h2⟩ := dget_T ra (S.obj _ _ e) ek
      cases hv : valD kvs kk with
      | some d =>
        obtain ⟨v, hd, _⟩ := h1 d hv
        exact ⟨_, op_inDict hu, _, _, rfl, hd, k.here S .bl (by simpa [hv] using ho)⟩
      | none => exact ⟨_, op_inDict hu, _, _, rfl, h2 hv, k.here S .bl (by simpa [hv] using ho)⟩
theorem opd_notIn (hu : X.A.units + 1 < cLine) : OpD X g (compareOp .NotIn) (oIn true) := OpD.of fun a b x y st H q Q ra rb S ho k => by
  rcases ho with ⟨ys, e, f1, f2, ho⟩ | ⟨i, j, e1, e2, ho⟩ | ⟨p, e, ho⟩
  · subst e
    cases rb with
    | tup hb r2 =>
      refine ⟨_, op_notIn_seq, _, _, rfl, .inr (SqT.of hb), flat_run ra f1, flat_all r2 f2, ?_⟩
      rw [if_pos rfl, inF_run ra f1 r2 f2]
      exact k.here S .bl (by simpa using ho)
  · subst e1 e2
    cases ra
    cases rb
    exact ⟨_, op_notIn_str, _, _, rfl, rfl, k.here S .bl (by simpa using ho)⟩
  · subst e
    cases rb
    rcases ho with ⟨ys, e, f1, f2, ho⟩ | ⟨kvs, kk, e, ek, ho⟩ | ⟨kvs, kk, e, ek, ho⟩
    · obtain ⟨vs, e1, r2⟩ := S.obj _ _ e
      refine ⟨_, op_notIn_seq, _, _, rfl, .inl (SqL.of e1), flat_run ra f1, flat_all r2 f2, ?_⟩
      rw [if_pos rfl, inF_run ra f1 r2 f2]
      exact k.here S .bl (by simpa using ho)
    all_goals
      unfold inAt at ho
    · obtain ⟨h1, h2⟩ := dget_K ra (S.obj _ _ e) ek
      cases hv : valD kvs kk with
      | some d =>
        obtain ⟨v, hd, _⟩ := h1 d hv
        exact ⟨_, op_notInDict hu, _, _, rfl, hd, k.here S .bl (by simpa [hv] using ho)⟩
      | none => exact ⟨_, op_notInDict hu, _, _, rfl, h2 hv, k.here S .bl (by simpa [hv] using ho)⟩
    · obtain ⟨h1, h2⟩ := dget_T ra (S.obj _ _ e) ek
      cases hv : valD kvs kk with
      | some d =>
        obtain ⟨v, hd, _⟩ := h1 d hv
        exact ⟨_, op_notInDict hu, _, _, rfl, hd, k.here S .bl (by simpa [hv] using ho)⟩
      | none => exact ⟨_, op_notInDict hu, _, _, rfl, h2 hv, k.here S .bl (by simpa [hv] using ho)⟩
/-! ### subscripts -/
theorem reps_at {K : PySem.W.Frag} {H : Hp} {ds : List D} {vs : List V} {i : Int} {d : D} (r : Reps K H ds vs) (h : atI ds i = some d) : ∃ v, atI vs i = some v ∧ Rep K H d v := by
  unfold atI at h ⊢
  rw [← r.length]
  cases e : ixN ds.length i with
  | none => rw [e] at h; cases h
  | some j =>
    rw [e] at h
    exact r.get h
theorem ix_dict (hu : X.A.units + 1 < cLine) : IxR X (fun x y H Q => ∃ a v, x = .ref a ∧ DGet H a y (some v) ∧ Q v H) := by
  intro value slice pins s σ H x y v u Q I rx ry ⟨a, r, ex, hd, hq⟩ hs
  subst ex
  cases rx
  exact PyProof.Rows.tail_any (dict_typeIs I hd) PySem.F.slot_dict_getitem.lookup (d_getItem hu I hd ry fun w' s' I' rv => ⟨r, H, I', rv, hq⟩) hs
def oIx (a b : D) (st : Stt) (q : DQ) : Prop :=
  (∃ xs i d, a = .tup xs ∧ b = .int i ∧ atI xs i = some d ∧ q d st) ∨ (∃ z i c, a = .str z ∧ b = .int i ∧ z.length ≤ sizeLine ∧ atI z.cps.toList i = some c ∧ q (.str ⟨#[c]⟩) st) ∨
  ∃ p, a = .ref p ∧ ((∃ xs i d, st p = some (.lst xs) ∧ b = .int i ∧ atI xs i = some d ∧ q d st) ∨ (∃ kvs k d, st p = some (.dK kvs) ∧ keyD b = some k ∧ valD kvs k = some d ∧ q d st) ∨
    ∃ kvs k d, st p = some (.dT kvs) ∧ keyT b = some k ∧ valD kvs k = some d ∧ q d st)
theorem ixd (hu : X.A.units + 1 < cLine) : IxD X g oIx := IxD.of fun a b x y st H q Q ra rb S ho k => by
  rcases ho with ⟨xs, i, d, e1, e2, e3, ho⟩ | ⟨z, i, c, e1, e2, hz, e3, ho⟩ | ⟨p, e, ⟨xs, i, d, e1, e2, e3, ho⟩ | ⟨kvs, kk, d, e1, ek, e3, ho⟩ | ⟨kvs, kk, d, e1, ek, e3, ho⟩⟩
  · subst e1 e2
    cases rb
    cases ra with
    | tup ha r =>
      obtain ⟨v, h1, h2⟩ := reps_at r e3
      exact ⟨_, ix_tup, _, _, _, _, rfl, rfl, SqT.of ha, h1, k.here S h2 ho⟩
  · subst e1 e2
    cases ra
    cases rb
    exact ⟨_, ix_str, _, _, _, rfl, rfl, hz, e3, k.here S .str ho⟩
  · subst e e2
    cases ra
    cases rb
    obtain ⟨vs, h0, r⟩ := S.obj _ _ e1
    obtain ⟨v, h1, h2⟩ := reps_at r e3
    exact ⟨_, ix_list, _, _, _, _, rfl, rfl, SqL.of h0, h1, k.here S h2 ho⟩
  · subst e
    cases ra
    obtain ⟨v, h1, h2⟩ := (dget_K rb (S.obj _ _ e1) ek).1 d e3
    exact ⟨_, ix_dict hu, _, _, rfl, h1, k.here S h2 ho⟩
  · subst e
    cases ra
    obtain ⟨v, h1, h2⟩ := (dget_T rb (S.obj _ _ e1) ek).1 d e3
    exact ⟨_, ix_dict hu, _, _, rfl, h1, k.here S h2 ho⟩
/-! ### slices -/
def cutL {α : Type} (xs : List α) (lo hi : Option Int) : List α := (xs.drop (HT.sIx xs.length 0 lo)).take (HT.sIx xs.length xs.length hi - HT.sIx xs.length 0 lo)
theorem reps_cut {K : PySem.W.Frag} {H : Hp} {ds : List D} {vs : List V} (r : Reps K H ds vs) (lo hi : Option Int) : Reps K H (cutL ds lo hi) (cutV vs lo hi) := by
  unfold cutL cutV
  rw [← r.length]
  exact (r.drop _).take _
theorem cut_whole {α : Type} (xs : List α) {lo hi : Option Int} (h1 : HT.sIx xs.length 0 lo = 0) (h2 : HT.sIx xs.length xs.length hi = xs.length) : cutL xs lo hi = xs := by
  unfold cutL
  rw [h1, h2, List.drop_zero, Nat.sub_zero, List.take_length]
def oSl (a : D) (lo hi : Option Int) (st : Stt) (q : DQ) : Prop :=
  (∃ xs, a = .tup xs ∧ q (.tup (cutL xs lo hi)) st) ∨ (∃ xs, a = .scr xs ∧ ∀ p, st p = none → q (.ref p) (put st p (.lst (cutL xs lo hi)))) ∨ (∃ z, a = .str z ∧ z.length ≤ sizeLine ∧ q (.str (Txt.slice z lo hi)) st) ∨
  ∃ p xs, a = .ref p ∧ st p = some (.lst xs) ∧ ∀ p', st p' = none → q (.ref p') (put st p' (.lst (cutL xs lo hi)))
theorem sld : SlD X g oSl := SlD.of fun a x lo hi st H q Q ra S ho k => by
  rcases ho with ⟨xs, e, ho⟩ | ⟨xs, e, ho⟩ | ⟨z, e, hz, ho⟩ | ⟨p, xs, e, e1, ho⟩
  · subst e
    cases ra with
    | @tup a _ vs ha r =>
      refine ⟨_, sl_tupA, a, vs, rfl, SqT.of ha, fun h => ?_, fun h p np => k.tup S (reps_cut r lo hi) ho np⟩
      rw [← r.length] at h
      rw [cut_whole xs h.1 h.2] at ho
      exact k.here S (.tup ha r) ho
  · subst e
    cases ra with
    | @scr a _ vs ha r =>
      have hs : SqL X.K H a vs := ha.elim (fun ⟨o, z⟩ => .inl (.inr ⟨o, z⟩)) fun z => z H
      exact ⟨_, sl_list, a, vs, rfl, hs, fun p np => k.lst S (reps_cut r lo hi) ho np⟩
  · subst e
    cases ra
    exact ⟨_, C8.sl_txt, z, rfl, hz, k.here S .str ho⟩
  · subst e
    cases ra
    obtain ⟨vs, h0, r⟩ := S.obj _ _ e1
    exact ⟨_, sl_list, _, vs, rfl, SqL.of h0, fun p np => k.lst S (reps_cut r lo hi) ho np⟩
/-- a[::-1] of a list -/
def dRevL (te : DE) : DE := fun δ st q => te δ st fun x st1 => ∃ p xs, x = .ref p ∧ st1 p = some (.lst xs) ∧ ∀ p', st1 p' = none → q (.ref p') (put st1 p' (.lst xs.reverse))
theorem pd_revL {e : Expr} {te : DE} {k : Nat} {p1 p2 p3 pos : Pos} (he : PD X g e te) : PD X g (.Subscript e (.Slice none none (some (.UnaryOp .USub (.Constant (.int 1) k p1) p2)) p3) pos) (dRevL te) :=
  PE.imp (pe_revL he) fun σ H Q ⟨δ, st, q, cf, h, kk⟩ => lb cf h fun d st1 v H1 l1 r1 c1 ⟨p, xs, ed, e1, z⟩ => by
    subst ed
    cases r1
    obtain ⟨vs, h0, r⟩ := c1.sr.obj _ _ e1
    exact ⟨p, vs, rfl, SqL.of h0, fun p' np => Kq.lst (K := X.K) (T := g.T) (q := q) (kq_of l1 kk) c1.sr r.reverse z np⟩
/-! ### stores -/
def putD {κ : Type} [DecidableEq κ] (kvs : List (κ × D)) (k : κ) (d : D) : List (κ × D) :=
  if (valD kvs k).isSome then kvs.map (fun kv => if kv.1 = k then (kv.1, d) else kv) else kvs ++ [(k, d)]
theorem kr_any {κ : Type} [DecidableEq κ] {K : PySem.W.Frag} {H : Hp} {kvs : List (κ × D)} {kvs' : List (κ × V)} (r : KR K H kvs kvs') (k : κ) : (kvs'.any fun kv => decide (kv.1 = k)) = (valD kvs k).isSome := by
  rw [valV_any]
  obtain ⟨h1, h2⟩ := valD_run (k := k) r
  cases e : valD kvs k with
  | some d => obtain ⟨v, e1, _⟩ := h1 d e; rw [e1] <;> rfl
  | none => rw [h2 e] <;> rfl
theorem kr_map {κ : Type} [DecidableEq κ] {K : PySem.W.Frag} {H : Hp} {d : D} {v : V} (rd : Rep K H d v) (k : κ) : ∀ {kvs : List (κ × D)} {kvs' : List (κ × V)}, KR K H kvs kvs' → KR K H (kvs.map (fun kv => if kv.1 = k then (kv.1, d) else kv)) (kvs'.map (fun kv => if kv.1 = k then (kv.1, v) else kv))
  | [], [], _ => ⟨rfl, .nil⟩
  | [], _ :: _, h => nomatch h.1
  | _ :: _, [], h => nomatch h.1
  | (k1, d1) :: r, (k2, v2) :: r', h => by
    obtain ⟨h1, h2⟩ := h
    have e : k1 = k2 := by simp at h1; exact h1.1
    subst e
    cases h2 with
    | cons a b =>
      have ih := kr_map rd k (kvs := r) (kvs' := r') ⟨by simpa using h1, b⟩
      by_cases hk : k1 = k
      · refine ⟨?_, ?_⟩
        · simp only [List.map_cons, hk, if_true]
          rw [ih.1]
        · simp only [List.map_cons, hk, if_true]
          exact .cons rd ih.2
      · refine ⟨?_, ?_⟩
        · simp only [List.map_cons, if_neg hk]
          rw [ih.1]
        · simp only [List.map_cons, if_neg hk]
          exact .cons a ih.2
theorem kr_put {κ : Type} [DecidableEq κ] {K : PySem.W.Frag} {H : Hp} {d : D} {v : V} (rd : Rep K H d v) (k : κ) {kvs : List (κ × D)} {kvs' : List (κ × V)} (r : KR K H kvs kvs') : KR K H (putD kvs k d) (putK kvs' k v) := by
  unfold putD putK
  rw [kr_any r k]
  split
  · exact kr_map rd k r
  · refine ⟨by rw [List.map_append, List.map_append, r.1] <;> rfl, ?_⟩
    rw [List.map_append, List.map_append]
    exact r.2.append (.cons rd .nil)
theorem kr_len {κ : Type} {K : PySem.W.Frag} {H : Hp} {kvs : List (κ × D)} {kvs' : List (κ × V)} (r : KR K H kvs kvs') : kvs.length = kvs'.length := by
  have := congrArg List.length r.1
  simpa using this
def oSet (a b d : D) (st : Stt) (q : Stt → Prop) : Prop := ∃ p, a = .ref p ∧ ((∃ xs i j, st p = some (.lst xs) ∧ b = .int i ∧ ixN xs.length i = some j ∧ q (put st p (.lst (xs.set j d)))) ∨
  (∃ kvs k, st p = some (.dK kvs) ∧ keyD b = some k ∧ kvs.length < sizeLine ∧ q (put st p (.dK (putD kvs k d)))) ∨ ∃ kvs k, st p = some (.dT kvs) ∧ keyT b = some k ∧ kvs.length < sizeLine ∧ q (put st p (.dT (putD kvs k d))))
theorem set_dict (hu : X.A.units + 1 < cLine) : PSet X (fun x y v H Q => ∃ a H', x = .ref a ∧ DPut H a y v H' ∧ Q H') := by
  intro pins s σ H o i v ov iv u Q I ro ri rv ⟨a, H', e, hp, hq⟩
  subst e
  cases ro
  exact d_setItem hu I hp ri rv fun s' I' => ⟨H', I', hq⟩
theorem setd (hu : X.A.units + 1 < cLine) : SetD X g oSet := by
  intro pins s σ H o i v ov iv u Q I ro ri rv ⟨a, b, d, st, q, ra, rb, rd, S, ⟨p, e, ho⟩, k⟩
  subst e
  cases ra
  rcases ho with ⟨xs, i, j, e1, e2, e3, ho⟩ | ⟨kvs, kk, e1, ek, hl, ho⟩ | ⟨kvs, kk, e1, ek, hl, ho⟩
  · subst e2
    cases rb
    obtain ⟨vs, h0, r⟩ := S.obj _ _ e1
    have mu : MutD (H p) := by rw [h0]; trivial
    refine set_list pins s σ H _ _ _ ov iv u Q I ro ri rv ⟨p, vs, i, j, rfl, rfl, h0, by rw [← r.length]; exact e3, k _ _ (le_upd mu) (S.put (od := .lst (xs.set j d)) mu ⟨_, upd_same, (r.set j rd).mono (le_upd mu)⟩) ho⟩
  · obtain ⟨kvs', h0, r⟩ := S.obj _ _ e1
    have mu : MutD (H p) := by rw [h0]; trivial
    have ey := keyD_run rb ek
    subst ey
    exact set_dict hu pins s σ H _ _ _ ov iv u Q I ro ri rv ⟨p, _, rfl, DPut.k h0 (by rw [← kr_len r]; exact hl), k _ _ (le_upd mu) (S.put (od := .dK (putD kvs kk d)) mu ⟨_, upd_same, (kr_put rd kk r).mono (le_upd mu)⟩) ho⟩
  · obtain ⟨kvs', h0, r⟩ := S.obj _ _ e1
    have mu : MutD (H p) := by rw [h0]; trivial
    obtain ⟨b', ey, eb⟩ := keyT_run rb ek
    subst ey
    exact set_dict hu pins s σ H _ _ _ ov iv u Q I ro ri rv ⟨p, _, rfl, DPut.t h0 eb (by rw [← kr_len r]; exact hl), k _ _ (le_upd mu) (S.put (od := .dT (putD kvs kk d)) mu ⟨_, upd_same, (kr_put rd kk r).mono (le_upd mu)⟩) ho⟩
/-! ### built-in functions -/
theorem reps_one {K : PySem.W.Frag} {H : Hp} {d : D} {vs : List V} (r : Reps K H [d] vs) : ∃ v, vs = [v] ∧ Rep K H d v := by
  cases r with
  | cons a b => cases b; exact ⟨_, rfl, a⟩
theorem reps_two {K : PySem.W.Frag} {H : Hp} {d e : D} {vs : List V} (r : Reps K H [d, e] vs) : ∃ v w, vs = [v, w] ∧ Rep K H d v ∧ Rep K H e w := by
  cases r with
  | cons a b =>
    obtain ⟨w, e, r⟩ := reps_one b
    subst e
    exact ⟨_, w, rfl, a, r⟩
def nLen (ds : List D) (st : Stt) (q : DQ) : Prop := ∃ d, ds = [d] ∧ ((∃ xs, d = .tup xs ∧ q (.int xs.length) st) ∨ (∃ xs, d = .scr xs ∧ q (.int xs.length) st) ∨ (∃ z, d = .str z ∧ z.length ≤ sizeLine ∧ q (.int z.length) st) ∨
  ∃ p, d = .ref p ∧ ((∃ xs, st p = some (.lst xs) ∧ q (.int xs.length) st) ∨ (∃ kvs, st p = some (.dK kvs) ∧ q (.int kvs.length) st) ∨ ∃ kvs, st p = some (.dT kvs) ∧ q (.int kvs.length) st))
theorem cd_len : CallD X g (.builtin "len") nLen := CallD.of fun ds xs st H q Q r S ⟨d, e, ho⟩ k => by
  subst e
  obtain ⟨v, ev, rv⟩ := reps_one r
  subst ev
  rcases ho with ⟨xs, e, ho⟩ | ⟨xs, e, ho⟩ | ⟨z, e, hz, ho⟩ | ⟨p, e, ⟨xs, e1, ho⟩ | ⟨kvs, e1, ho⟩ | ⟨kvs, e1, ho⟩⟩
  · subst e
    cases rv with
    | @tup a _ vs ha r1 => exact ⟨_, call_len_seq, a, vs, rfl, .inr (SqT.of ha), by rw [← r1.length]; exact k.here S .int ho⟩
  · subst e
    cases rv with
    | @scr a _ vs ha r1 => exact ⟨_, call_len_seq, a, vs, rfl, .inl (ha.elim (fun ⟨o, z⟩ => .inl (.inr ⟨o, z⟩)) fun z => z H), by rw [← r1.length]; exact k.here S .int ho⟩
  · subst e
    cases rv
    exact ⟨_, call_len_str, z, rfl, hz, k.here S .int ho⟩
  · subst e
    cases rv
    obtain ⟨vs, h0, r⟩ := S.obj _ _ e1
    exact ⟨_, call_len_seq, p, vs, rfl, .inl (SqL.of h0), by rw [← r.length]; exact k.here S .int ho⟩
  · subst e
    cases rv
    obtain ⟨kvs', h0, r⟩ := S.obj _ _ e1
    exact ⟨_, call_lenD, p, kvs', rfl, h0, by rw [← kr_len r]; exact k.here S .int ho⟩
  · subst e
    cases rv
    obtain ⟨kvs', h0, r⟩ := S.obj _ _ e1
    exact ⟨_, call_len_dT, p, kvs', rfl, h0, by rw [← kr_len r]; exact k.here S .int ho⟩
def nAbs (ds : List D) (st : Stt) (q : DQ) : Prop := ∃ i, ds = [.int i] ∧ q (.int (if i < 0 then -i else i)) st
theorem cd_abs : CallD X g (.builtin "abs") nAbs := CallD.of fun ds xs st H q Q r S ⟨i, e, ho⟩ k => by
  subst e
  obtain ⟨v, ev, rv⟩ := reps_one r
  subst ev
  cases rv
  exact ⟨_, call_abs, i, rfl, k.here S .int ho⟩
def nInt (ds : List D) (st : Stt) (q : DQ) : Prop := (∃ i, ds = [.int i] ∧ q (.int i) st) ∨ ∃ b : Bool, ds = [.bl b] ∧ q (.int (if b then 1 else 0)) st
theorem cd_int : CallD X g (.type "int") nInt := CallD.of fun ds xs st H q Q r S ho k => by
  rcases ho with ⟨i, e, ho⟩ | ⟨b, e, ho⟩
  · subst e
    obtain ⟨v, ev, rv⟩ := reps_one r
    subst ev
    cases rv
    exact ⟨_, call_int1, .inl ⟨i, rfl, k.here S .int ho⟩⟩
  · subst e
    obtain ⟨v, ev, rv⟩ := reps_one r
    subst ev
    cases rv
    exact ⟨_, call_int1, .inr ⟨b, rfl, k.here S .int ho⟩⟩
/-- a list of truth values -/
theorem reps_bls {K : PySem.W.Frag} {H : Hp} : ∀ {bs : List Bool} {vs : List V}, Reps K H (bs.map D.bl) vs → vs = bs.map V.bl
  | [], _, .nil => rfl
  | b :: bs, _, .cons a r => by
    cases a
    rw [reps_bls r] <;> rfl
def nAll (f : List Bool → Bool) (ds : List D) (st : Stt) (q : DQ) : Prop := ∃ p bs, ds = [.ref p] ∧ st p = some (.lst (bs.map D.bl)) ∧ q (.bl (f bs)) st
theorem cd_all (hc : X.calm = true) : CallD X g (.builtin "all") (nAll fun bs => bs.all id) := CallD.of fun ds xs st H q Q r S ⟨p, bs, e, e1, ho⟩ k => by
  subst e
  obtain ⟨v, ev, rv⟩ := reps_one r
  subst ev
  cases rv
  obtain ⟨vs, h0, r⟩ := S.obj _ _ e1
  rw [reps_bls r] at h0
  exact ⟨_, cr_all hc, p, bs, rfl, SqL.of h0, k.here S .bl ho⟩
theorem cd_any (hc : X.calm = true) : CallD X g (.builtin "any") (nAll fun bs => bs.any id) := CallD.of fun ds xs st H q Q r S ⟨p, bs, e, e1, ho⟩ k => by
  subst e
  obtain ⟨v, ev, rv⟩ := reps_one r
  subst ev
  cases rv
  obtain ⟨vs, h0, r⟩ := S.obj _ _ e1
  rw [reps_bls r] at h0
  exact ⟨_, cr_any hc, p, bs, rfl, SqL.of h0, k.here S .bl ho⟩
/-- list(x): of a tuple, a list, a dict's keys -/
def nList (ds : List D) (st : Stt) (q : DQ) : Prop := ∃ d, ds = [d] ∧ ((∃ xs, d = .tup xs ∧ ∀ p, st p = none → q (.ref p) (put st p (.lst xs))) ∨
  ∃ a, d = .ref a ∧ ((∃ xs, st a = some (.lst xs) ∧ ∀ p, st p = none → q (.ref p) (put st p (.lst xs))) ∨ ∃ kvs, st a = some (.dK kvs) ∧ ∀ p, st p = none → q (.ref p) (put st p (.lst (kvs.map fun kv => dK kv.1)))))
theorem reps_keys {K : PySem.W.Frag} {H : Hp} : ∀ ks : List Key, Reps K H (ks.map dK) (ks.map kV)
  | [] => .nil
  | .inl i :: ks => .cons .int (reps_keys ks)
  | .inr i :: ks => .cons .str (reps_keys ks)
theorem cd_list (hc : X.calm = true) : CallD X g (.type "list") nList := CallD.of fun ds xs st H q Q r S ⟨d, e, ho⟩ k => by
  subst e
  obtain ⟨v, ev, rv⟩ := reps_one r
  subst ev
  rcases ho with ⟨xs, e, ho⟩ | ⟨a, e, ⟨xs, e1, ho⟩ | ⟨kvs, e1, ho⟩⟩
  · subst e
    cases rv with
    | @tup a _ vs ha r1 => exact ⟨_, call_list_of, a, vs, rfl, .inr (SqT.of ha), fun p np => k.lst S r1 ho np⟩
  · subst e
    cases rv
    obtain ⟨vs, h0, r⟩ := S.obj _ _ e1
    exact ⟨_, call_list_of, a, vs, rfl, .inl (SqL.of h0), fun p np => k.lst S r ho np⟩
  · subst e
    cases rv
    obtain ⟨kvs', h0, r⟩ := S.obj _ _ e1
    refine ⟨_, call_listD hc, a, kvs', rfl, .inl h0, fun p np => k.lst S (ds := kvs.map fun kv => dK kv.1) ?_ ho np⟩
    have := reps_keys (K := X.K) (H := H) (kvs.map (·.1))
    rw [List.map_map] at this
    have e2 : (kvs'.map fun kv => kV kv.1) = (kvs.map (·.1)).map kV := by rw [r.1, List.map_map] <;> rfl
    rw [e2]
    exact this
/-- tuple(x): of a list, a tuple -/
def nTuple (ds : List D) (st : Stt) (q : DQ) : Prop := ∃ d, ds = [d] ∧ ((∃ xs, d = .tup xs ∧ q (.tup xs) st) ∨ ∃ a xs, d = .ref a ∧ st a = some (.lst xs) ∧ q (.tup xs) st)
theorem cd_tuple : CallD X g (.type "tuple") nTuple := CallD.of fun ds xs st H q Q r S ⟨d, e, ho⟩ k => by
  subst e
  obtain ⟨v, ev, rv⟩ := reps_one r
  subst ev
  rcases ho with ⟨xs, e, ho⟩ | ⟨a, xs, e, e1, ho⟩
  · subst e
    cases rv with
    | @tup a _ vs ha r1 => exact ⟨_, call_tuple_of, a, vs, rfl, .inr ⟨SqT.of ha, k.here S (.tup ha r1) ho⟩⟩
  · subst e
    cases rv
    obtain ⟨vs, h0, r⟩ := S.obj _ _ e1
    exact ⟨_, call_tuple_of, a, vs, rfl, .inl ⟨SqL.of h0, fun p np => k.tup S r ho np⟩⟩
end
end DL
/-! DL7: isinstance, dict(..), methods, walks, tables of the module, raise. -/
namespace DL
open PySem PySem.Spec L2
section
variable {X : Cx} {g : GC}
/-! ### isinstance -/
def tyF (st : Stt) : D → Option String
  | .non => some "NoneType"
  | .bl _ => some "bool"
  | .int _ => some "int"
  | .str _ => some "str"
  | .tup _ => some "tuple"
  | .ref a => match st a with
    | some (.lst _) => some "list"
    | some (.dK _) => some "dict"
    | some (.dT _) => some "dict"
    | _ => none
  | _ => none
def tyOk (t : String) : Bool := ["NoneType", "bool", "int", "str", "tuple", "list", "dict"].contains t
theorem tyF_ok {st : Stt} {d : D} {t : String} (h : tyF st d = some t) : tyOk t = true := by
  cases d with
  | ref a =>
    simp only [tyF] at h
    split at h <;> first | (cases h; done) | (cases h; decide)
  | _ => first | (cases h; done) | (cases h; decide)
theorem tyF_run {T : List (Addr × Str)} {st : Stt} {H : Hp} {d : D} {v : V} {t : String} (S : SR X.K T st H) (r : Rep X.K H d v) (h : tyF st d = some t) : TyX X.K H v (.type t) := by
  cases r with
  | non => cases h; exact .base .non
  | bl => cases h; exact .base (.bl _)
  | int => cases h; exact .base (.int _)
  | str => cases h; exact .base (.str _)
  | tup ha _ => cases h; exact .base (.tup ha)
  | @ref a =>
    simp only [tyF] at h
    split at h
    · rename_i e; cases h; obtain ⟨vs, h0, _⟩ := S.obj _ _ e; exact .base (.lst h0)
    · rename_i e; cases h; obtain ⟨vs, h0, _⟩ := S.obj _ _ e; exact .base (.dK h0)
    · rename_i e; cases h; obtain ⟨vs, h0, _⟩ := S.obj _ _ e; exact .base (.dT h0)
    · cases h
  | ty => cases h
  | scr => cases h
def isaB (t n : String) : Bool := t == n || (t == "bool" && n == "int")
theorem kit_all {K : PySem.W.Frag} {t n : String} (ht : tyOk t = true) (hn : tyOk n = true) : PySem.W.kitOne K (.type t) (.type n) = some (isaB t n) := by
  have key : ∀ t ∈ ["NoneType", "bool", "int", "str", "tuple", "list", "dict"], ∀ n ∈ ["NoneType", "bool", "int", "str", "tuple", "list", "dict"], kitB t n = some (DL.isaB t n) := by decide +kernel
  exact kit_ty (key t (by simpa [tyOk, List.contains_iff_mem] using ht) n (by simpa [tyOk, List.contains_iff_mem] using hn))
def nIsi (ds : List D) (st : Stt) (q : DQ) : Prop := ∃ d n t, ds = [d, .ty n] ∧ tyOk n = true ∧ tyF st d = some t ∧ q (.bl (DL.isaB t n)) st
theorem cd_isi : CallD X g (.builtin "isinstance") nIsi := CallD.of fun ds xs st H q Q r S ⟨d, n, t, e, hn, ht, ho⟩ k => by
  subst e
  obtain ⟨v, w, ev, rv, rw'⟩ := reps_two r
  subst ev
  cases rw'
  exact ⟨_, call_isi, v, .ty n, .type t, .type n, _, rfl, .ty n, tyF_run S rv ht, kit_all (tyF_ok ht) hn, k.here S .bl ho⟩
/-! ### dict(..) -/
def pairsD : List D → Option (List (Key × D))
  | [] => some []
  | .tup [k, v] :: r => match keyD k, pairsD r with
    | some k', some r' => some ((k', v) :: r')
    | _, _ => none
  | _ :: _ => none
def mergeD (kvs more : List (Key × D)) : List (Key × D) := more.foldl (fun acc kv => putD acc kv.1 kv.2) kvs
theorem kr_cons {κ : Type} {K : PySem.W.Frag} {H : Hp} {k : κ} {d : D} {v : V} {kvs : List (κ × D)} {kvs' : List (κ × V)} (rd : Rep K H d v) (r : KR K H kvs kvs') : KR K H ((k, d) :: kvs) ((k, v) :: kvs') := ⟨by simp [r.1], .cons rd r.2⟩
theorem kr_uncons {κ : Type} {K : PySem.W.Frag} {H : Hp} {k : κ} {d : D} {kvs : List (κ × D)} {kvs' : List (κ × V)} (r : KR K H ((k, d) :: kvs) kvs') : ∃ v l, kvs' = (k, v) :: l ∧ Rep K H d v ∧ KR K H kvs l := by
  obtain ⟨h1, h2⟩ := r
  cases kvs' with
  | nil => cases h1
  | cons p l =>
    obtain ⟨k2, v2⟩ := p
    simp at h1
    obtain ⟨e1, e2⟩ := h1
    subst e1
    cases h2 with
    | cons a b => exact ⟨v2, l, rfl, a, by simpa using e2, b⟩
theorem kr_merge {K : PySem.W.Frag} {H : Hp} : ∀ {more : List (Key × D)} {more' : List (Key × V)} {kvs : List (Key × D)} {kvs' : List (Key × V)}, KR K H more more' → KR K H kvs kvs' → KR K H (mergeD kvs more) (mergeK kvs' more')
  | [], [], _, _, _, r => r
  | [], _ :: _, _, _, h, _ => nomatch h.1
  | (k, d) :: m, m', kvs, kvs', h, r => by
    obtain ⟨v, l, e, rd, h2⟩ := kr_uncons h
    subst e
    show KR K H (mergeD (putD kvs k d) m) (mergeK (putK kvs' k v) l)
    exact kr_merge h2 (kr_put rd k r)
theorem pairs_run {K : PySem.W.Frag} {H : Hp} : ∀ {ds : List D} {vs : List V} {kvs : List (Key × D)}, Reps K H ds vs → pairsD ds = some kvs → ∃ ps kvs', vs = ps.map V.ref ∧ KR K H kvs kvs' ∧ Paired (fun p (kv : Key × V) => SqT K H p [kV kv.1, kv.2]) ps kvs'
  | _, _, _, .nil, h => by cases h; exact ⟨[], [], rfl, ⟨rfl, .nil⟩, .nil⟩
  | _, _, _, @Reps.cons _ _ d v ds vs r rr, h => by
    cases r with
    | @tup a xs ws ha r1 =>
      match xs, r1, ha with
      | [k, d'], .cons r1 (.cons r2 .nil), ha =>
        unfold pairsD at h
        split at h
        · rename_i k' r' e1 e2
          cases h
          obtain ⟨ps, kvs', ev, kr, pr⟩ := pairs_run rr e2
          refine ⟨a :: ps, (k', _) :: kvs', by rw [ev] <;> rfl, kr_cons r2 kr, .cons ?_ pr⟩
          have ek := keyD_run r1 e1
          subst ek
          exact SqT.of ha
        · cases h
      | [], _, _ => cases h
      | [_], _, _ => cases h
      | _ :: _ :: _ :: _, _, _ => cases h
    | _ => cases h
def nDict (ds : List D) (st : Stt) (q : DQ) : Prop := ∃ a, ds = [.ref a] ∧ ((∃ xs kvs, st a = some (.lst xs) ∧ pairsD xs = some kvs ∧ ∀ p, st p = none → q (.ref p) (put st p (.dK (mergeD [] kvs)))) ∨
  ∃ kvs, st a = some (.dK kvs) ∧ ∀ p, st p = none → q (.ref p) (put st p (.dK kvs)))
theorem Kq.dK {K : PySem.W.Frag} {T : List (Addr × Str)} {H : Hp} {q : DQ} {Q : VK} {st : Stt} {kvs : List (Key × D)} {kvs' : List (Key × V)} (k : Kq K T H q Q) (s : SR K T st H) (r : KR K H kvs kvs') (h : ∀ p, st p = none → q (.ref p) (put st p (.dK kvs))) {p : Addr} (n : H p = none) : Q (.ref p) (upd H p (.dK kvs')) :=
  k _ _ _ _ (Le.new n) .ref (s.put (od := .dK kvs) (by rw [n]; trivial) ⟨_, upd_same, r.mono (Le.new n)⟩) (h p (s.free n))
theorem cd_dict (hc : X.calm = true) : CallD X g (.type "dict") nDict := CallD.of fun ds xs st H q Q r S ⟨a, e, ho⟩ k => by
  subst e
  obtain ⟨v, ev, rv⟩ := reps_one r
  subst ev
  cases rv
  rcases ho with ⟨xs, kvs, e1, ep, ho⟩ | ⟨kvs, e1, ho⟩
  · obtain ⟨vs, h0, r⟩ := S.obj _ _ e1
    obtain ⟨ps, kvs', ev, kr, pr⟩ := pairs_run r ep
    subst ev
    exact ⟨_, call_dictP hc, a, ps, kvs', rfl, SqL.of h0, pr, fun p np => k.dK S (kr_merge kr ⟨rfl, .nil⟩) ho np⟩
  · obtain ⟨kvs', h0, r⟩ := S.obj _ _ e1
    exact ⟨_, call_dictD, a, kvs', rfl, .inl h0, fun p np => k.dK S r ho np⟩
/-- {} -/
def dNewK : DE := fun _ st q => ∀ p, st p = none → q (.ref p) (put st p (.dK []))
def dNewT : DE := fun _ st q => ∀ p, st p = none → q (.ref p) (put st p (.dT []))
theorem pd_newK {pos : Pos} : PD X g (.Dict [] [] pos) dNewK := PE.imp pe_dnewK fun σ H Q ⟨δ, st, q, cf, h, k⟩ p np => Kq.dK (K := X.K) (T := g.T) (q := q) (kvs := []) k cf.sr ⟨rfl, .nil⟩ h np
theorem pd_newT {pos : Pos} : PD X g (.Dict [] [] pos) dNewT := PE.imp pe_dnewT fun σ H Q ⟨δ, st, q, cf, h, k⟩ p np =>
  k _ _ _ _ (Le.new np) .ref (cf.sr.put (od := .dT []) (by rw [np]; trivial) ⟨[], upd_same, rfl, .nil⟩) (h p (cf.sr.free np))
/-- {k: v, ..} with text keys that are written -/
def dDisp : List (Str × DE) → DEnv → Stt → (List (Key × D) → Stt → Prop) → Prop
  | [], _, st, q => q [] st
  | (k, t) :: r, δ, st, q => t δ st fun d st1 => dDisp r δ st1 fun l st2 => q ((.inr k, d) :: l) st2
/-! ### methods of lists -/
def isLst (d : D) (st : Stt) : Prop := ∃ p xs, d = .ref p ∧ st p = some (.lst xs)
theorem isLst_run {T : List (Addr × Str)} : ∀ (d : D) (v : V) (st : Stt) (H : Hp), Rep X.K H d v → SR X.K T st H → isLst d st → tyV X.K "list" v H := fun d v st H r S ⟨p, xs, e, e1⟩ => by
  subst e
  cases r
  obtain ⟨vs, h0, _⟩ := S.obj _ _ e1
  exact .inl ⟨rfl, vs, SqL.of h0⟩
def mAppend (d : D) (ds : List D) (st : Stt) (q : DQ) : Prop := ∃ p xs y, d = .ref p ∧ ds = [y] ∧ st p = some (.lst xs) ∧ xs.length < sizeLine ∧ q .non (put st p (.lst (xs ++ [y])))
theorem mtd_append : MtD X g "list" "list.append" isLst mAppend := ⟨isLst_run, fun pins s σ H x xs v us Q I rx rv ⟨d, ds, st, q, rd, rds, S, ⟨p, ys, y, e1, e2, e3, hl, ho⟩, k⟩ => by
  subst e1 e2
  cases rd
  obtain ⟨w, ew, rw'⟩ := reps_one rds
  subst ew
  obtain ⟨vs, h0, r⟩ := S.obj _ _ e3
  have mu : MutD (H p) := by rw [h0]; trivial
  exact mt_append pins s σ H _ _ v us Q I rx rv ⟨p, vs, w, rfl, rfl, h0, by rw [← r.length]; exact hl, k _ _ _ _ (le_upd mu) .non (S.put (od := .lst (ys ++ [y])) mu ⟨_, upd_same, (r.append (.cons rw' .nil)).mono (le_upd mu)⟩) ho⟩⟩
def mExtend (d : D) (ds : List D) (st : Stt) (q : DQ) : Prop := ∃ p b xs ys, d = .ref p ∧ ds = [.ref b] ∧ st p = some (.lst xs) ∧ st b = some (.lst ys) ∧ xs.length + ys.length ≤ sizeLine ∧ q .non (put st p (.lst (xs ++ ys)))
theorem mtd_extend : MtD X g "list" "list.extend" isLst mExtend := ⟨isLst_run, fun pins s σ H x xs v us Q I rx rv ⟨d, ds, st, q, rd, rds, S, ⟨p, b, ys, zs, e1, e2, e3, e4, hl, ho⟩, k⟩ => by
  subst e1 e2
  cases rd
  obtain ⟨w, ew, rw'⟩ := reps_one rds
  subst ew
  cases rw'
  obtain ⟨vs, h0, r⟩ := S.obj _ _ e3
  obtain ⟨ws, h1, r1⟩ := S.obj _ _ e4
  have mu : MutD (H p) := by rw [h0]; trivial
  exact mt_extend pins s σ H _ _ v us Q I rx rv ⟨p, b, vs, ws, rfl, rfl, h0, h1, by rw [← r.length, ← r1.length]; exact hl, k _ _ _ _ (le_upd mu) .non (S.put (od := .lst (ys ++ zs)) mu ⟨_, upd_same, (r.append r1).mono (le_upd mu)⟩) ho⟩⟩
theorem Reps.dropLast {K : PySem.W.Frag} {H : Hp} {ds : List D} {vs : List V} (r : Reps K H ds vs) : Reps K H ds.dropLast vs.dropLast := by
  rw [List.dropLast_eq_take, List.dropLast_eq_take, ← r.length]
  exact r.take _
def mPop (d : D) (ds : List D) (st : Stt) (q : DQ) : Prop := ∃ p xs y, d = .ref p ∧ ds = [] ∧ st p = some (.lst xs) ∧ xs[xs.length - 1]? = some y ∧ q y (put st p (.lst xs.dropLast))
theorem mtd_pop : MtD X g "list" "list.pop" isLst mPop := ⟨isLst_run, fun pins s σ H x xs v us Q I rx rv ⟨d, ds, st, q, rd, rds, S, ⟨p, ys, y, e1, e2, e3, hl, ho⟩, k⟩ => by
  subst e1 e2
  cases rd
  cases rds
  obtain ⟨vs, h0, r⟩ := S.obj _ _ e3
  have mu : MutD (H p) := by rw [h0]; trivial
  obtain ⟨w, ew, rw'⟩ := r.get hl
  exact mt_pop pins s σ H _ _ v us Q I rx rv ⟨p, vs, w, rfl, rfl, h0, by rw [← r.length]; exact ew, k _ _ _ _ (le_upd mu) (rw'.mono (le_upd mu)) (S.put (od := .lst ys.dropLast) mu ⟨_, upd_same, r.dropLast.mono (le_upd mu)⟩) ho⟩⟩
def mPopAt (d : D) (ds : List D) (st : Stt) (q : DQ) : Prop := ∃ p xs i j y, d = .ref p ∧ ds = [.int i] ∧ st p = some (.lst xs) ∧ -(2 ^ 63) ≤ i ∧ i < 2 ^ 63 ∧ seqIndex? i xs.length = some j ∧ xs[j]? = some y ∧ q y (put st p (.lst (xs.eraseIdx j)))
theorem mtd_popAt : MtD X g "list" "list.pop" isLst mPopAt := ⟨isLst_run, fun pins s σ H x xs v us Q I rx rv ⟨d, ds, st, q, rd, rds, S, ⟨p, ys, i, j, y, e1, e2, e3, h1, h2, hj, hl, ho⟩, k⟩ => by
  subst e1 e2
  cases rd
  obtain ⟨w0, ew0, rw0⟩ := reps_one rds
  subst ew0
  cases rw0
  obtain ⟨vs, h0, r⟩ := S.obj _ _ e3
  have mu : MutD (H p) := by rw [h0]; trivial
  obtain ⟨w, ew, rw'⟩ := r.get hl
  exact mt_popAt pins s σ H _ _ v us Q I rx rv ⟨p, vs, i, j, w, rfl, rfl, h0, h1, h2, by rw [← r.length]; exact hj, ew, k _ _ _ _ (le_upd mu) (rw'.mono (le_upd mu)) (S.put (od := .lst (ys.eraseIdx j)) mu ⟨_, upd_same, (r.eraseIdx j).mono (le_upd mu)⟩) ho⟩⟩
/-! ### d.pop(k) -/
def dropD {κ : Type} [DecidableEq κ] (kvs : List (κ × D)) (k : κ) : List (κ × D) := kvs.filter fun kv => decide (kv.1 ≠ k)
theorem kr_drop {κ : Type} [DecidableEq κ] {K : PySem.W.Frag} {H : Hp} (k : κ) : ∀ {kvs : List (κ × D)} {kvs' : List (κ × V)}, KR K H kvs kvs' → KR K H (dropD kvs k) (dropK kvs' k)
  | [], [], _ => ⟨rfl, .nil⟩
  | [], _ :: _, h => nomatch h.1
  | (k1, d1) :: r, kvs', h => by
    obtain ⟨v, l, e, rd, h2⟩ := kr_uncons h
    subst e
    have ih := kr_drop k h2
    unfold dropD dropK at ih ⊢
    by_cases hk : k1 = k
    · rw [List.filter_cons_of_neg (by simp [hk]), List.filter_cons_of_neg (by simp [hk])]
      exact ih
    · rw [List.filter_cons_of_pos (by simp [hk]), List.filter_cons_of_pos (by simp [hk])]
      exact kr_cons rd ih
def dDPop1 (td ty : DE) : DE := fun δ st q => td δ st fun x st1 => ∃ a kvs0, x = .ref a ∧ st1 a = some (.dK kvs0) ∧ ty δ st1 fun y st2 => ∃ kvs k v, st2 a = some (.dK kvs) ∧ keyD y = some k ∧ valD kvs k = some v ∧ q v (put st2 a (.dK (dropD kvs k)))
theorem pd_dpop1 {o e : Expr} {apos cpos : Pos} {td ty : DE} (ho : PD X g o td) (he : PD X g e ty) (m : M1 X o "pop" apos e cpos := by exact ⟨rfl, rfl, rfl, rfl⟩) : PD X g (.Call (.Attribute o "pop" apos) [e] [] cpos) (dDPop1 td ty) :=
  PE.imp (pe_dpop1 ho he m) fun σ H Q ⟨δ, st, q, cf, h, k⟩ => lb cf h fun x st1 v1 H1 l1 r1 c1 ⟨a, kvs0, e1, e2, z⟩ => by
    subst e1
    cases r1
    obtain ⟨kvs0', h0, _⟩ := c1.sr.obj _ _ e2
    refine ⟨a, rfl, .inl ⟨_, .inl h0⟩, lb c1 z fun y st2 v2 H2 l2 r2 c2 ⟨kvs, kk, v, e3, ek, ev, z⟩ => ?_⟩
    obtain ⟨kvs', h1, r⟩ := c2.sr.obj _ _ e3
    have mu : MutD (H2 a) := by rw [h1]; trivial
    obtain ⟨w, ew, rw'⟩ := (valD_run (k := kk) r).1 v ev
    exact ⟨kvs', kk, w, h1, keyD_run r2 ek, ew, k _ _ _ _ ((l1.trans l2).trans (le_upd mu)) (rw'.mono (le_upd mu)) (c2.sr.put (od := .dK (dropD kvs kk)) mu ⟨_, upd_same, (kr_drop kk r).mono (le_upd mu)⟩) z⟩
/-! ### walks -/
theorem pdi_str {tg e : Expr} {te : DE} (he : PD X g e te) : PDI X g tg e (iStrD te) :=
  PI.imp (pi_str he) fun σ H R ⟨δ, st, q, cf, h, k⟩ => lb cf h fun d st1 v H1 l1 r1 c1 ⟨z, ed, y⟩ => by
    subst ed
    cases r1
    refine ⟨z, rfl, k _ st1 _ H1 l1 c1.sr ?_ y⟩
    intro i H st es l s e
    cases e
    refine ⟨fun hl => by unfold signsL at hl; rw [List.length_map, Array.length_toList] at hl; exact hl, fun d hd => ?_⟩
    unfold signsL at hd
    rw [List.getElem?_map] at hd
    cases ec : z.cps.toList[i]? with
    | none => rw [ec] at hd; cases hd
    | some c =>
      rw [ec] at hd
      have hd' : D.str ⟨#[c]⟩ = d := Option.some.inj hd
      subst hd'
      have ec2 : z.cps[i]? = some c := by rw [← Array.getElem?_toList]; exact ec
      refine ⟨(Array.getElem?_eq_some_iff.mp ec2).1, fun x H' y => ?_⟩
      obtain ⟨rfl, c', h1, rfl⟩ := y
      rw [ec2] at h1
      cases h1
      exact ⟨Le.refl, s, .str⟩
/-! ### tests of a comprehension -/
def tYesD : DT := fun _ st q => q true st
theorem ptd_nil : PTs X [] (lftT X.K g tYesD) := ⟨fun pins s σ H Q I ⟨δ, st, q, cf, h, k⟩ => pts_nil.run pins s σ H Q I (k true st H Le.refl cf.sr h)⟩
theorem ptd_one {c : Expr} {t : DT} (h : PDT X g c t) : PTs X [c] (lftT X.K g t) := pts_one h
/-! ### a table of the module: texts to ints -/
structure WDct (K : PySem.W.Frag) (w : World) (a : Addr) (kvs : List (Str × Int)) : Prop where
  kd : ∃ es n, KDict K w a es n
  get : ∀ z i, kvs.lookup z = some i → ∃ u t, PySem.W.nsIn K a z = some (some u) ∧ u = Value.int i t
  out : ∀ z, kvs.lookup z = none → PySem.W.nsIn K a z = some none
def dInW (kvs : List (Str × Int)) (ta : DE) : DE := fun δ st q => ta δ st fun x st1 => ∃ z, x = .str z ∧ q (.bl (kvs.lookup z).isSome) st1
theorem pd_inW {a : Expr} {x : Str} {p pos : Pos} {ta : DE} {ad : Addr} {kvs : List (Str × Int)} (W : WDct X.K X.w ad kvs) (hm : X.mg x = some (.ref ad)) (ha : PD X g a ta) (hg : Gl X x := by rfl) (hd : (x == ("__debug__" : Str)) = false := by decide) (hmk : behindInMarks .In (.Name x p) = false := by rfl) :
    PD X g (.Compare a [.In] [.Name x p] pos) (dInW kvs ta) := by
  obtain ⟨es, n, kd⟩ := W.kd
  refine PE.imp (pe_cmpR (op_in_kd kd) ha (pe_glob hg hm (v := .ref ad) rfl hd) hmk) fun σ H Q ⟨δ, st, q, cf, h, k⟩ => lb cf h fun d st1 v H1 l1 r1 c1 ⟨z, ed, y⟩ => ?_
  subst ed
  cases r1
  cases e : kvs.lookup z with
  | none => exact ⟨z, none, rfl, rfl, W.out z e, k _ st1 _ H1 l1 .bl c1.sr (by rw [e] at y; exact y)⟩
  | some i =>
    obtain ⟨u, t, h1, h2⟩ := W.get z i e
    exact ⟨z, some u, rfl, rfl, h1, k _ st1 _ H1 l1 .bl c1.sr (by rw [e] at y; exact y)⟩
def dIxW (kvs : List (Str × Int)) (ta : DE) : DE := fun δ st q => ta δ st fun x st1 => ∃ z i, x = .str z ∧ kvs.lookup z = some i ∧ q (.int i) st1
theorem pd_ixW {b : Expr} {x : Str} {p pos : Pos} {tb : DE} {ad : Addr} {kvs : List (Str × Int)} (W : WDct X.K X.w ad kvs) (hm : X.mg x = some (.ref ad)) (hb : PD X g b tb) (hg : Gl X x := by rfl) (hd : (x == ("__debug__" : Str)) = false := by decide) (hs : PlainIx b := by exact fun _ _ => rfl) :
    PD X g (.Subscript (.Name x p) b pos) (dIxW kvs tb) := by
  obtain ⟨es, n, kd⟩ := W.kd
  refine PE.imp (pe_ix (r := rIxD X.K X.w) ix_kdict (pe_glob hg hm (v := .ref ad) rfl hd) hb hs) fun σ H Q ⟨δ, st, q, cf, h, k⟩ => lb cf h fun d st1 v H1 l1 r1 c1 ⟨z, i, ed, ei, y⟩ => ?_
  subst ed
  cases r1
  obtain ⟨u, t, h1, h2⟩ := W.get z i ei
  subst h2
  exact ⟨ad, z, .int i, rfl, rfl, ⟨es, n, _, kd.at_, kd.lit, h1, t, rfl⟩, k _ st1 _ H1 l1 .int c1.sr y⟩
/-! ### raise X() -/
structure ExcC (K : PySem.W.Frag) (mg : Str → Option Value) (x : Str) (C : Addr) : Prop where
  q : PySem.W.excIn K C He.veBase "ValueError.__new__" = true
  gC : mg x = some (.ref C)
  kC : PySem.W.keepIn K (.ref C) = true
  sub : PySem.W.subIn K (.ref C) (.type "BaseException") = some true
  ty : PySem.W.typeIn K (.ref C) = some (.type "type")
theorem pmk_own0 {x : Str} {C : Addr} {p pos : Pos} (E : ExcC X.K X.mg x C) (hg : Gl X x := by rfl) (hdb : (x == ("__debug__" : Str)) = false := by decide) : PMk X (.Call (.Name x p) [] [] pos) (fun _ H Q => Q (.ref C) none H) := by
  intro pins s σ H Q I h
  refine wpAny_Call_Name_kw (ld_glob I hg E.gC ?_ hdb)
  refine PySem.W.callWith_K0 I.kIn E.kC ?_
  obtain ⟨bm, N, nm, qn, bs, hdct, sn, sub, ab, col, dd, k0, k1, k2, k3, k5, mN, hC, hN, hni, T⟩ := exc_obj I.kIn E.q
  exact wpAny_call_exc_subT PySem.F.excBase_ValueError T hC hN hni (fun h' e hm => mk_of I hm (raises_own E.sub E.ty) h (I.hok.gone hm.new)) (Nat.zero_le _)
def sRaise (C : Addr) (ex : DXE) : DS := fun N δ st => ex ⟨C, []⟩ δ st
theorem pds_raise {gb : Bool} {k : Nat} {ex : DXE} {x : Str} {C : Addr} {p p2 pos : Pos} (c : Ct X g gb k ex) (E : ExcC X.K X.mg x C) (hg : Gl X x := by rfl) (hdb : (x == ("__debug__" : Str)) = false := by decide) : PDS X g (.Raise (some (.Call (.Name x p) [] [] p2)) none pos) (sRaise C ex) :=
  PS.imp (ps_raise c.calm c.tk (pmk_own0 E hg hdb)) fun Ez σ H ⟨δ, st, N, cf, h, n⟩ => ⟨⟨C, []⟩, δ, st, cf, ⟨rfl, .inl rfl⟩, h⟩
end
end DL
/-! DL8: three at once, += , -x, list(range(n)), list(d.items()), dict displays, enumerate of a tuple, a tuple turned round. -/
namespace DL
open PySem PySem.Spec L2
section
variable {X : Cx} {g : GC} {a b c e : Expr} {es : List Expr} {ta tb tc te : DE} {t : DA} {pos : Pos}
theorem pds_par3 (i j l : Nat) {x y z : Str} {px py pz pt : Pos} {kt k2 pt2} (hc : X.calm = true) (hN : X.N.Nodup) (ha : PDA X g [a, b, c] t) (hi : X.N[i]? = some x := by rfl) (hj : X.N[j]? = some y := by rfl) (hl : X.N[l]? = some z := by rfl) (hij : i ≠ j := by decide) (hil : i ≠ l := by decide) (hjl : j ≠ l := by decide)
    (hx : X.env.scope.names.lookup x = some .local := by rfl) (hy : X.env.scope.names.lookup y = some .local := by rfl) (hz : X.env.scope.names.lookup z = some .local := by rfl)
    (hw : swappedStores [.Tuple [.Name x px, .Name y py, .Name z pz] kt pt] (.Tuple [a, b, c] k2 pt2) X.env = pure (some [x, y, z]) := by rfl)
    (hs : swapsWithSole [.Tuple [.Name x px, .Name y py, .Name z pz] kt pt] (.Tuple [a, b, c] k2 pt2) pos.line X.env = pure false := by rfl) :
    PDS X g (.Assign [.Tuple [.Name x px, .Name y py, .Name z pz] kt pt] (.Tuple [a, b, c] k2 pt2) pos) (sPar3 i j l t) :=
  PS.imp (ps_par3 hc hN hi hj hl hij hil hjl hx hy hz ha hw hs) fun E σ H ⟨δ, st, N, cf, h, n⟩ => lbA cf h fun ds st1 vs H1 l1 r1 c1 ⟨v, w, u, ed, z⟩ => by
    subst ed
    cases r1 with
    | cons r1 r2 =>
      cases r2 with
      | cons r2 r3 =>
        cases r3 with
        | cons r3 r4 =>
          cases r4
          exact ⟨_, _, _, rfl, n.nx _ st1 _ H1 l1 (((c1.set i r1).set j r2).set l r3) z⟩
theorem IpD.of {op : Operator} {o : O2} (h : ∀ a b x y st H q Q, Rep X.K H a x → Rep X.K H b y → SR X.K g.T st H → o a b st q → Kq X.K g.T H q Q → ∃ r : TIp, PIp X op r ∧ r x y H Q) : IpD X g op o := by
  intro pins s σ H x y v u Q I r1 r2 ⟨a, b, st, q, ra, rb, S, ho, k⟩
  obtain ⟨r, hr, z⟩ := h a b x y st H q Q ra rb S ho k
  exact hr pins s σ H x y v u Q I r1 r2 z
abbrev oIpAdd : O2 := oI2 (fun _ _ => True) fun i j => .int (i + j)
theorem ipd_add : IpD X g .Add oIpAdd := IpD.of fun a b x y st H q Q ra rb S ho k => by
  cases ra with
  | int => cases rb with
    | int => exact ⟨_, ip_add, _, _, rfl, rfl, k.here S .int ho.2⟩
    | _ => exact False.elim ho
  | _ => exact False.elim ho
def oNeg : O1
  | .int i => fun st q => q (.int (-i)) st
  | _ => fun _ _ => False
theorem und_neg : UnD X g (unaryOp .USub) oNeg := by
  intro pins s σ H x v Q I rx ⟨a, st, q, ra, S, ho, k⟩
  cases ra with
  | int => exact un_neg pins s σ H _ v Q I rx ⟨_, rfl, k.here S .int ho⟩
  | _ => exact False.elim ho
/-! ### list(range(n)) -/
def dLRg (ta : DE) : DE := fun δ st q => ta δ st fun x st1 => ∃ n : Int, x = .int n ∧ 0 ≤ n ∧ n ≤ 2 ^ 24 ∧ ∀ p, st1 p = none → q (.ref p) (put st1 p (.lst (rngL 0 n.toNat)))
theorem reps_rng {K : PySem.W.Frag} {H : Hp} (lo : Int) : ∀ (is : List Nat), Reps K H (is.map fun i => D.int (lo + (i : Nat))) (is.map fun i => V.int (lo + (i : Nat)))
  | [] => .nil
  | _ :: is => .cons .int (reps_rng lo is)
theorem pd_lrg {p p2 pos2 : Pos} (hc : X.calm = true) (hm : X.mg "list" = none) (hm2 : X.mg "range" = none) (ha : PD X g a ta) (hg : Gl X "list" := by rfl) (hg2 : Gl X "range" := by rfl) (na : starEach [a] X.env = (false, eval a X.env) :: starEach [] X.env := by rfl)
    (na2 : starEach [.Call (.Name "range" p2) [a] [] pos2] X.env = (false, eval (.Call (.Name "range" p2) [a] [] pos2) X.env) :: starEach [] X.env := by rfl) :
    PD X g (.Call (.Name "list" p) [.Call (.Name "range" p2) [a] [] pos2] [] pos) (dLRg ta) :=
  PE.imp (pe_listRg hc hg hm (prg_1 hg2 hm2 ha na) na2) fun σ H Q ⟨δ, st, q, cf, h, k⟩ => lb cf h fun d st1 v H1 l1 r1 c1 ⟨n, ed, h0, h1, z⟩ => by
    subst ed
    cases r1
    refine ⟨n, rfl, ⟨by decide, by decide, by omega, by omega, by omega⟩, fun p np => ?_⟩
    refine Kq.lst (K := X.K) (T := g.T) (q := q) (ds := rngL 0 n.toNat) (kq_of l1 k) c1.sr ?_ z np
    unfold rgV rngL
    rw [Int.sub_zero]
    exact reps_rng 0 _
/-! ### list(d.items()) -/
def dItems (te : DE) : DE := fun δ st q => te δ st fun x st1 => ∃ a kvs, x = .ref a ∧ st1 a = some (.dK kvs) ∧ ∀ p, st1 p = none → q (.ref p) (put st1 p (.lst (kvs.map fun kv => .tup [dK kv.1, kv.2])))
theorem reps_key {K : PySem.W.Frag} {H : Hp} (k : Key) : Rep K H (dK k) (kV k) := by
  cases k with
  | inl i => exact .int
  | inr x => exact .str
theorem reps_items {K : PySem.W.Frag} {H : Hp} : ∀ {kvs : List (Key × D)} {kvs' : List (Key × V)} {as : List Addr}, KR K H kvs kvs' → Paired (fun (t : Addr) (q : Key × V) => H t = some (.tup [kV q.1, q.2])) as kvs' → Reps K H (kvs.map fun kv => D.tup [dK kv.1, kv.2]) (as.map V.ref)
  | [], [], _, _, .nil => .nil
  | [], _ :: _, _, h, _ => nomatch h.1
  | (k, d) :: kvs, kvs', as, h, p => by
    obtain ⟨v, l, e, rd, h2⟩ := kr_uncons h
    subst e
    cases p with
    | cons hp pr => exact .cons (.tup hp (.cons (reps_key k) (.cons rd .nil))) (reps_items h2 pr)
theorem pd_items {p apos cpos : Pos} {te : DE} (hc : X.calm = true) (hm : X.mg "list" = none) (he : PD X g e te) (hg : Gl X "list" := by rfl) (hv : bootBuiltins "list" = some (.type "list") := by rfl) (hbase : attributeBase e "items" X.env (eval e X.env) = eval e X.env := by rfl) (hline : (apos.endLine == cpos.line) = true := by rfl)
    (hs : starEach [.Call (.Attribute e "items" apos) [] [] cpos] X.env = (false, eval (.Call (.Attribute e "items" apos) [] [] cpos) X.env) :: starEach [] X.env := by rfl) :
    PD X g (.Call (.Name "list" p) [.Call (.Attribute e "items" apos) [] [] cpos] [] pos) (dItems te) :=
  PE.imp (LiI.pe_listItems hc he hg hm hv hbase hline hs) fun σ H Q ⟨δ, st, q, cf, h, k⟩ => lb cf h fun d st1 v H1 l1 r1 c1 ⟨a, kvs, ed, ea, z⟩ => by
    subst ed
    cases r1
    obtain ⟨kvs', h0, kr⟩ := c1.sr.obj _ _ ea
    refine ⟨a, kvs', rfl, h0, fun H' p as k1 k2 k3 k4 k5 k6 => ?_⟩
    have le : Le H1 H' := ⟨fun b xs e => k1 b _ e, fun b o u e => k1 b _ e⟩
    refine k _ (put st1 p (.lst (kvs.map fun kv => .tup [dK kv.1, kv.2]))) _ H' (l1.trans le) .ref ?_ (z p (c1.sr.free k2))
    refine ⟨fun b ob e => ?_, fun p hp => ?_⟩
    · by_cases hb : b = p
      · subst hb
        rw [put_same] at e
        cases e
        exact ⟨_, k5, reps_items ⟨kr.1, kr.2.mono le⟩ k6⟩
      · rw [put_ne hb] at e
        have ho := c1.sr.obj b ob e
        obtain ⟨u, q1, _⟩ := ho.some
        exact ho.stay le ((k1 b u q1).trans q1.symm)
    · obtain ⟨ps, t1, t2, t3⟩ := c1.sr.tab p hp
      refine ⟨ps, k1 _ _ t1, t2, fun pos cv hc => ?_⟩
      obtain ⟨cc, e1, e2⟩ := t3 pos cv hc
      exact ⟨cc, e1, k1 _ _ e2⟩
end
end DL
/-! DL9: dict displays, enumerate of a tuple, a tuple turned round. -/
namespace DL
open PySem PySem.Spec L2
section
variable {X : Cx} {g : GC} {a b c e : Expr} {es : List Expr} {ta tb tc te : DE} {t : DA} {pos : Pos}
/-! ### {k: v, ..} -/
abbrev trsV (K : PySem.W.Frag) (g : GC) (trs : List (Str × DE)) : List (TE × TE) := trs.map fun p => (tC (.str p.1), lft K g p.2)
abbrev PDPs (X : Cx) (g : GC) (pos : Pos) (keys : List (Option Expr)) (values : List Expr) (trs : List (Str × DE)) : Prop := PPs X pos keys values (trsV X.K g trs)
theorem pdps_nil : PDPs X g pos [] [] [] := pps_nil
theorem pdps_cons {i : Str} {j} {p2 : Pos} {v : Expr} {ks : List (Option Expr)} {vs : List Expr} {tv : DE} {trs : List (Str × DE)} (hv : PD X g v tv) (hr : PDPs X g pos ks vs trs) : PDPs X g pos (some (.Constant (.str i) j p2) :: ks) (v :: vs) ((i, tv) :: trs) := pps_cons pe_str hv hr
theorem disp_run {K : PySem.W.Frag} {δ : DEnv} {σ : L2.St} : ∀ {trs : List (Str × DE)} {st : Stt} {H : Hp} {q : List (Key × D) → Stt → Prop} {Q : List (V × V) → Hp → Prop}, Cfg K g δ st σ H → dDisp trs δ st q →
    (∀ kvs kvs' st' H', Le H H' → KR K H' kvs kvs' → SR K g.T st' H' → q kvs st' → Q (kvs'.map fun kv => (kV kv.1, kv.2)) H') → tPairs (trsV K g trs) σ H Q
  | [], st, H, q, Q, c, h, k => k [] [] st H Le.refl ⟨rfl, .nil⟩ c.sr h
  | (x, tv) :: r, st, H, q, Q, c, h, k => by
    show lft K g tv σ H _
    exact lb c h fun d st1 v H1 l1 r1 c1 z => disp_run c1 z fun kvs kvs' st2 H2 l2 kr s2 z2 => k ((.inr x, d) :: kvs) ((.inr x, v) :: kvs') st2 H2 (l1.trans l2) (kr_cons (r1.mono l2) kr) s2 z2
def dDispE (trs : List (Str × DE)) : DE := fun δ st q => ∀ p, st p = none → dDisp trs δ (put st p (.dK [])) fun kvs st2 => st2 p = some (.dK []) ∧ kvs.length ≤ 15 ∧ q (.ref p) (put st2 p (.dK (mergeD [] kvs)))
theorem pd_disp {keys : List (Option Expr)} {values : List Expr} {trs : List (Str × DE)} (h : PDPs X g pos keys values trs) (hall : keys.all (·.isSome) = true := by rfl) (hl : keys.length = values.length := by rfl) (h0 : keys ≠ [] := by exact List.cons_ne_nil _ _) (h15 : keys.length ≤ 15 := by decide) :
    PD X g (.Dict keys values pos) (dDispE trs) :=
  PE.imp (pe_disp h hall hl h0 h15) fun σ H Q ⟨δ, st, q, cf, h, k⟩ p np => by
    have S2 : SR X.K g.T (put st p (.dK [])) (upd H p (.dK [])) := cf.sr.put (od := .dK []) (by rw [np]; trivial) ⟨[], upd_same, rfl, .nil⟩
    refine disp_run (cf.go (Le.new np) S2) (h p (cf.sr.free np)) fun kvs kvs' st2 H2 l2 kr s2 ⟨e, hl, z⟩ => ?_
    obtain ⟨kvs0, h0, kr0⟩ := s2.obj _ _ e
    have e0 : kvs0 = [] := List.length_eq_zero_iff.mp (kr_len kr0).symm
    subst e0
    have mu : MutD (H2 p) := by rw [h0]; trivial
    refine ⟨h0, kvs', rfl, by rw [← kr_len kr]; exact hl, k _ _ _ _ ((Le.new np).trans (l2.trans (le_upd mu))) .ref (s2.put (od := .dK (mergeD [] kvs)) mu ⟨_, upd_same, (kr_merge kr ⟨rfl, .nil⟩).mono (le_upd mu)⟩) z⟩
/-! ### enumerate(tuple) -/
theorem meets_enumerate_new1 {v : Value} {o : Obj} {H : Heap → Prop} (B : Begins v o H) :
    Meets (Builtin.«enumerate.__new__» ⟨[.type "enumerate", v], []⟩) (fun _ R s => H s.heap ∧
      R (.ok (.ret (.ref (s.heap.push o).objs.size))) { s with heap := (s.heap.push o).push { cls := .type "enumerate", data := .fields #[.none, .bool false, .ref s.heap.objs.size, rawInt 0, .none, .none] } }) :=
  .of_wp fun prog w A R s h => by
    obtain ⟨hp, g, d, tk, os⟩ := s; obtain ⟨h1, h⟩ := h
    have hsub := sub_enumerate
    have q1 : ∀ {A' : Around} {E : Value → Shared → Prop} {Q : Value → Shared → Prop}, Q (.ref hp.objs.size) ⟨hp.push o, g, d, tk, os⟩ → wpAny (model prog w) A' (pyIter v) Q E ⟨hp, g, d, tk, os⟩ :=
      fun q => B.iter prog w _ _ ⟨hp, g, d, tk, os⟩ _ h1 q
    wp_walk using q1
    refine wpAny_stack_any fun st => wpAny_pure ?_
    split
    · rename_i c _ _ _ _ _
      cases (c == Value.type "enumerate")
      · wp_walk using q1
        exact ⟨_, rfl, h⟩
      · wp_walk using q1
        exact ⟨_, rfl, h⟩
    · wp_walk using q1
      exact ⟨_, rfl, h⟩
section
variable {prog : Program} {w : World} {A : Around} {E : Value → Shared → Prop} {s : Shared}
theorem enum_begins1 {v : Value} {o : Obj} {H : Heap → Prop} {Q : Value → Shared → Prop} (B : Begins v o H) (h1 : H s.heap)
    (h : ∀ h', IsEnum h' (s.heap.objs.size + 1) s.heap.objs.size 0 .none → h'.get? s.heap.objs.size = some o → h'.objs.size = s.heap.objs.size + 2 →
      (∀ b o, s.heap.get? b = some o → h'.get? b = some o) → Q (.ref (s.heap.objs.size + 1)) { s with heap := h' }) :
    wpAny (model prog w) A (call (.type "enumerate") [v]) Q E s := by
  refine callType_new F.called_enumerate (by decide) (F.typeCall_enumerate_1 _) (F.newCall_enumerate_1 _) (fun obj => F.args_object_init_2 obj _) F.entry_enumerate_new
    (meets_enumerate_new1 B) ⟨h1, ?_⟩
  have hz : (s.heap.push o).objs.size = s.heap.objs.size + 1 := Heap.size_push ..
  show _ ∧ _
  rw [hz]
  have he : IsEnum ((s.heap.push o).push { cls := .type "enumerate", data := .fields #[.none, .bool false, .ref s.heap.objs.size, rawInt 0, .none, .none] }) (s.heap.objs.size + 1) s.heap.objs.size 0 .none := by
    have := Heap.get?_push_size (s.heap.push o) (o := { cls := .type "enumerate", data := .fields #[.none, .bool false, .ref s.heap.objs.size, rawInt 0, .none, .none] }) rfl
    rw [hz] at this; exact this
  refine ⟨⟨_, he, rfl⟩, h _ he (Heap.get?_push_of_some _ (Heap.get?_push_size _ B.free)) (by rw [Heap.size_push, hz]) fun b o x => Heap.get?_push_of_some _ (Heap.get?_push_of_some _ x)⟩
end
theorem drawsEnd {prog : Program} {w : World} {A : Around} (hh : A.handled = none) (it t : Addr) (hne : t ≠ it) (items : Array Value) (i : Nat) (hi : items.size ≤ i) :
    Draws prog w A it [it, t] i (fun _ _ => False) (fun j h => j = i ∧ h.IsTupleIter it t i ∧ h.IsTuple t items) where
  live := fun _ _ st => let ⟨o, ho, _⟩ := st.2.1; ⟨o, ho⟩
  frame := fun _ _ _ st hk => ⟨st.1, st.2.1.at fun o e => hk it (by simp) o e, st.2.2.at fun o e => hk t (by simp) o e⟩
  item := fun j s Q E hj st hQ => absurd st.1 (Nat.ne_of_lt hj)
  done := fun s Q E st hE => wpAny_nextOf_tuple_end hh st.2.1 st.2.2 (Array.getElem?_eq_none hi) hE
/-- the tuple at a, each item in a new pair -/
def IteT (K : PySem.W.Frag) (a : Addr) : It :=
  ⟨fun i H => ∃ (xs : List V) (x : V), SqT K H a xs ∧ xs[i]? = some x, fun i H v H' => ∃ T x, v = .ref T ∧ H T = none ∧ H' = upd H T (.tup [.int (i : Nat), x]) ∧ ∀ xs, SqT K H a xs → xs[i]? = some x, fun i H => ∃ xs : List V, SqT K H a xs ∧ xs.length ≤ i⟩
theorem turn_enumT {P : Program} {w : World} {K : PySem.W.Frag} {elts : List Expr} {kk : Nat} {tpos : Pos} (a e it : Addr) (hea : e ≠ a) (hia : a ≠ it) :
    Turn P w K (.Tuple elts kk tpos) (IteT K a) [e, it] e (fun i h => (∃ old, IsEnum h e it ((i : Nat) : Int) old) ∧ h.IsTupleIter it a i ∧ e ≠ it) where
  mem := by simp
  obj := fun i h st b hb => by
    obtain ⟨⟨old, he⟩, ⟨o, ho, hc, hd⟩, _⟩ := st
    have e' : b = e ∨ b = it := by simpa using hb
    rcases e' with z | z
    · rw [z]; exact ⟨_, he, fun v q => nomatch q⟩
    · rw [z]; exact ⟨o, ho, fun v q => by rw [hd] at q; cases q⟩
  keep := fun i h h' st k => let ⟨⟨old, he⟩, hi, hne⟩ := st; ⟨⟨old, k e (by simp) _ he⟩, hi.at fun o q => k it (by simp) o q, hne⟩
  item := by
    intro X hP hw hK hc i pins s σ H E I hf st hg
    subst hP hw hK
    obtain ⟨⟨old, he⟩, hit, hne⟩ := st
    obtain ⟨xs, x, hq, hx⟩ := hg
    obtain ⟨its, rv, p, hz⟩ := I.tuple hq
    obtain ⟨u, hu, ru⟩ := rv.get hx
    have hlt : i < its.length := by
      have := (List.getElem?_eq_some_iff.mp hu).1
      exact this
    have hel : e < s.heap.objs.size := Heap.lt_size he
    have hil : it < s.heap.objs.size := by obtain ⟨_, q, _⟩ := hit; exact Heap.lt_size q
    refine wpAny_pyNext_enum_itemD (Draws.tuple (prog := X.prog) (w := X.w) (A := X.A.in1) (show X.A.in1.handled = none from I.ok.hd hc) it a hia its.toArray) he ⟨hit, p⟩ (by simpa using hlt) hne (by simp [hne, hea]) fun y h' tk hy ho hst hT hsz hk => ?_
    have ey : y = u := by
      have : its[i]? = some y := by simpa using hy
      rw [hu] at this
      exact (Option.some.inj this).symm
    subst ey
    obtain ⟨hit', hp'⟩ := hst
    refine ⟨_, rfl, wpAny_letOwnedTupleGo_enum (s := { s with heap := h', toks := tk + 1 }) ho fun h'' he' sb => ?_⟩
    have hT2 : h''.get? s.heap.objs.size = some { cls := .type "tuple", data := .seq #[.int i tk, y] } := (sb.2 _ (Nat.ne_of_gt hel)).trans hT
    have new : ObjOk X.prog X.w (upd H s.heap.objs.size (.tup [.int (i : Nat), x])) h'' s.heap.objs.size (.tup [.int (i : Nat), x]) :=
      ⟨by show 2 ≤ sizeLine; decide, [.int i tk, y], .cons ⟨_, rfl⟩ (.cons ru .nil), ⟨_, hT2, rfl, _, rfl⟩⟩
    have I1 : Inv X pins σ (upd H s.heap.objs.size (.tup [.int (i : Nat), x])) { s with heap := h'', toks := tk + 1 } :=
      I.turnedNew (ch := [e, it]) (fun b ob hb q => (sb.2 b (fun z => hb (by simp [z]))).trans (hk b ob (fun z => hb (by simp [z])) (fun z => hb (by simp [z])) q)) hf (Nat.le_refl _) new
    refine ⟨.ref s.heap.objs.size, _, I1, rfl, ⟨_, x, rfl, I.hok.fresh (Nat.le_refl _), rfl, fun ys hy => by rw [I.tuple_inj hy hq]; exact hx⟩, ⟨⟨y, ?_⟩, hit'.at fun o q => (sb.2 it (Ne.symm hne)).trans q, hne⟩, fun b hb => ?_⟩
    · have e1 : ((i + 1 : Nat) : Int) = (i : Int) + 1 := by omega
      rw [e1]; exact he'
    · have hb' : b < s.heap.objs.size := by
        have e' : b = e ∨ b = it := by simpa using hb
        rcases e' with z | z
        · rw [z]; exact hel
        · rw [z]; exact hil
      rw [upd_ne (Nat.ne_of_lt hb')]
      exact (hf b hb).1
  done := by
    intro X hP hw hK hc i pins s σ H E I hf st hg
    subst hP hw hK
    obtain ⟨⟨old, he⟩, hit, hne⟩ := st
    obtain ⟨xs, hq, hx⟩ := hg
    obtain ⟨its, rv, p, hz⟩ := I.tuple hq
    obtain ⟨f0, f1, f2, f3, f4, f5⟩ := hf it (by simp)
    have hl := rv.length
    have D := DL.drawsEnd (prog := X.prog) (w := X.w) (A := X.A.in1) (I.ok.hd hc) it a hia its.toArray i (by simp; omega)
    exact wpAny_pyNext_enum_endD D he ⟨rfl, hit, p⟩ fun h' eb => ⟨rfl, I.turned (t' := s.toks) (fun b o hb q => eb b o hb q) f0 f1 f3 f4 f5⟩
  self := fun A i s Q E st h => let ⟨⟨_, he⟩, _⟩ := st; wpAny_pyIter_enum he h
def iEnumT (K : PySem.W.Frag) (ta : TA) : TI := fun σ H R => ta σ H fun vs H1 => ∃ a xs, vs = [.ref a] ∧ H1 a = some (.tup xs) ∧ R (IteT K a) H1
theorem pi_enumT {X : Cx} {e : Expr} {ta : TA} {p pos tpos : Pos} {elts : List Expr} {kk : Nat} (hg : Gl X "enumerate") (hm : X.mg "enumerate" = none) (ha : PA X [e] ta) (hs : starEach [e] X.env = [(false, eval e X.env)] := by rfl) :
    PI X (.Tuple elts kk tpos) (.Call (.Name "enumerate" p) [e] [] pos) (iEnumT X.K ta) := by
  refine ⟨fun pins s σ H R I h => ?_⟩
  refine PyProof.Rows.Call_ (ld_blt I hg hm PyProof.Rows.boot_enumerate (PyProof.Rows.callWith_type1 (thn (ha.run pos pins s σ H _ I h) fun us s1 ⟨vs, H1, I1, r1, q1⟩ => ?_) hs rfl))
  obtain ⟨a, xs, ex, hq, q⟩ := q1
  subst ex
  cases r1 with
  | cons r rr =>
    cases rr
    cases r
    obtain ⟨its, rv, p', hz⟩ := I1.tuple (SqT.of hq)
    have ha : a < s1.heap.objs.size := by obtain ⟨_, z, _⟩ := p'; exact Heap.lt_size z
    refine enum_begins1 (begins_tuple a its.toArray) p' fun h' he hit hsz hk => wpAny_pyIter_enum he ?_
    have I2 : Inv X pins σ H1 { s1 with heap := h' } := I1.kept (t' := s1.toks) hk
    refine ⟨s1.heap.objs.size + 1, [s1.heap.objs.size + 1, s1.heap.objs.size], _, _, H1, rfl, I2, turn_enumT a (s1.heap.objs.size + 1) s1.heap.objs.size (Nat.ne_of_lt (Nat.lt_of_lt_of_le ha (Nat.le_add_right _ _))).symm (Nat.ne_of_lt ha), ⟨⟨.none, he⟩, ⟨_, hit, rfl, rfl⟩, Nat.succ_ne_self _⟩, fun b hb => ?_, q⟩
    have e' : b = s1.heap.objs.size + 1 ∨ b = s1.heap.objs.size := by simpa using hb
    have hle : s1.heap.objs.size ≤ b := by
      rcases e' with z | z
      · rw [z]; exact Nat.le_add_right _ _
      · rw [z]; exact Nat.le_refl _
    exact I1.fpOk hle (I1.hok.fresh hle)
/-- (i, item): ahead of the items -/
def enumL (ds : List D) : List D := ds.zipIdx.map fun p => .tup [.int (p.2 : Nat), p.1]
theorem enumL_get {ds : List D} {i : Nat} {d : D} (h : ds[i]? = some d) : (enumL ds)[i]? = some (.tup [.int (i : Nat), d]) := by
  unfold enumL
  rw [List.getElem?_map, List.getElem?_zipIdx, h]
  simp
def iEnD (te : DE) : DI := fun δ st q => te δ st fun x st1 => ∃ ds, x = .tup ds ∧ q (fun _ => some (enumL ds)) st1
theorem itok_enumT {K : PySem.W.Frag} {T : List (Addr × Str)} {H1 : Hp} {a : Addr} {ds : List D} {vs : List V} (h : H1 a = some (.tup vs)) (r : Reps K H1 ds vs) : ItOk K T (fun _ => some (enumL ds)) (IteT K a) H1 := by
  intro i H st es l s e
  cases e
  have r' := r.mono l
  have hlen : (enumL ds).length = ds.length := by unfold enumL; rw [List.length_map, List.length_zipIdx]
  refine ⟨fun hl => ⟨vs, SqT.of (l.tup _ _ h), by rw [← r.length, ← hlen]; exact hl⟩, fun d hd => ?_⟩
  have hi : i < ds.length := by rw [← hlen]; exact (List.getElem?_eq_some_iff.mp hd).1
  obtain ⟨v, e1, e2⟩ := r'.get (List.getElem?_eq_getElem hi)
  rw [enumL_get (List.getElem?_eq_getElem hi)] at hd
  cases hd
  refine ⟨⟨vs, v, SqT.of (l.tup _ _ h), e1⟩, fun x H' y => ?_⟩
  obtain ⟨t, x', rfl, np, rfl, hy⟩ := y
  have := hy vs (SqT.of (l.tup _ _ h))
  rw [e1] at this
  cases this
  exact ⟨Le.new np, s.laid np, .tup upd_same (.cons .int (.cons (e2.mono (Le.new np)) .nil))⟩
theorem pdi_enum {e : Expr} {te : DE} {p pos tpos : Pos} {elts : List Expr} {kk : Nat} (hm : X.mg "enumerate" = none) (he : PD X g e te) (hg : Gl X "enumerate" := by rfl) (hs : starEach [e] X.env = [(false, eval e X.env)] := by rfl) : PDI X g (.Tuple elts kk tpos) (.Call (.Name "enumerate" p) [e] [] pos) (iEnD te) :=
  PI.imp (pi_enumT hg hm (pda_cons he pda_nil hs) hs) fun σ H R ⟨δ, st, q, cf, h, k⟩ => 
    ⟨δ, st, fun ds st1 => match ds with
      | [x] => ∃ ds', x = .tup ds' ∧ q (fun _ => some (enumL ds')) st1
      | _ => False, cf, h, fun ds st1 vs H1 l1 r1 s1 z => by
      match ds, z, r1 with
      | [x], ⟨ds', ed, z⟩, r1 =>
        subst ed
        obtain ⟨v, ev, rv⟩ := reps_one r1
        subst ev
        cases rv with
        | @tup a _ ws ha rr => exact ⟨a, ws, rfl, ha, k _ st1 _ H1 l1 s1 (itok_enumT ha rr) z⟩⟩
end
end DL
/-! DL10: a tuple turned round. -/
namespace DL
open PySem PySem.Spec L2 PyProof.Rows
section
variable {prog : Program} {w : World} {A : Around} {E : Value → Shared → Prop} {s : Shared}
theorem sliceApplied_rev {sl : Addr} {vs : Value} {n : Nat} {Q : Int × Int × Nat → Shared → Prop} (hs : s.heap.IsSliceOf sl .none .none vs) (ps : IsPart vs (some (-1)))
    (h : Q ((n : Int) - 1, -1, n) s) : wpAny (model prog w) A (Builtin.Slice.sliceApplied (.ref sl) (pure (n : Int))) Q E s := by
  obtain ⟨os, hos, hcs, hds⟩ := id hs
  unfold Builtin.Slice.sliceApplied Builtin.Slice.sliceFields
  refine wpAny_bind (wpAny_bind (wpAny_field hos hds (x := .none) rfl (wpAny_bind (wpAny_field hos hds (x := .none) rfl (wpAny_bind (wpAny_field hos hds (x := vs) rfl (wpAny_pure ?_)))))))
  refine wpAny_bind (HT.slicePart_ ps ?_)
  show wpAny _ _ (if ((-1 : Int) == 0) = true then _ else _) _ _ s
  rw [if_neg (by decide)]
  refine wpAny_bind (slicePart_none (wpAny_bind (slicePart_none (wpAny_bind (wpAny_pure ?_)))))
  show wpAny _ _ (pure ((n : Int) - 1, (-1 : Int), Builtin.Slice.slicePlaces ((n : Int) - 1) (-1) (-1))) _ _ s
  have e : Builtin.Slice.slicePlaces ((n : Int) - 1) (-1) (-1) = n := by
    unfold Builtin.Slice.slicePlaces
    have h1 : ¬ ((-1 : Int) > 0) := by omega
    simp only [h1, if_false, Int.neg_neg, Int.ediv_one]
    split <;> omega
  rw [e]
  exact wpAny_pure h
theorem filterMap_cg {α β : Type} {f g : α → Option β} : ∀ {l : List α}, (∀ x ∈ l, f x = g x) → l.filterMap f = l.filterMap g
  | [], _ => rfl
  | x :: l, h => by
    rw [List.filterMap_cons, List.filterMap_cons, h x List.mem_cons_self, filterMap_cg fun y hy => h y (List.mem_cons_of_mem _ hy)]
theorem rev_pick (xs : Array Value) : ((List.range xs.size).filterMap fun (k : Nat) => xs[((xs.size : Int) - 1 + (k : Int) * (-1)).toNat]?).toArray = xs.toList.reverse.toArray := by
  have h := PySem.W.krv_pick xs
  unfold slicePick at h
  rw [PySem.W.krv_bounds] at h
  have h2 : ((sliceRange ((xs.size : Int) - 1) (-1) (-1)).filterMap (xs[·]?)).toArray = xs.toList.reverse.toArray := h
  rw [← h2, PySem.W.krv_sliceRange, List.filterMap_map]
  congr 1
  have : ∀ k ∈ List.range xs.size, (fun (k : Nat) => xs[((xs.size : Int) - 1 + (k : Int) * (-1)).toNat]?) k = ((fun x => xs[x]?) ∘ fun k => xs.size - 1 - k) k := by
    intro k hk
    have := List.mem_range.mp hk
    have e : ((xs.size : Int) - 1 + (k : Int) * (-1)).toNat = xs.size - 1 - k := by omega
    simp only [Function.comp, e]
  exact filterMap_cg this
theorem getItem_tuple_rev {t sl : Addr} {items : Array Value} {vs : Value} {Q : Value → Shared → Prop} (ht : IsTup s.heap t items) (hs : s.heap.IsSliceOf sl .none .none vs) (ps : IsPart vs (some (-1)))
    (h : Q (.ref s.heap.objs.size) { s with heap := s.heap.push { cls := .type "tuple", data := .seq items.toList.reverse.toArray } })
    (hsz : items.size ≤ sizeLine) : wpAny (model prog w) A (getItem (.ref t) (.ref sl)) Q E s := by
  have htake : sizeOk (.seq items.toList.reverse.toArray) := by
    show (items.toList.reverse.toArray).size ≤ sizeLine
    rw [List.size_toArray, List.length_reverse, Array.length_toList]
    omega
  obtain ⟨os, hos, hcs, hds⟩ := id hs
  have hTs : s.TypeIs (.ref sl) "slice" := ⟨os, hos, hcs⟩
  unfold getItem
  try with_reducible refine wpAny_holding ?_
  first | refine wpAny_bind (wpAny_pure ?_) | skip
  refine wpAny_bind (wpAny_sequenceKey ht.typeIs (by decide) ?_)
  refine wpAny_bind (wpAny_callSpecial?_slot (name := Str.ofString "__getitem__") ht.typeIs PyProof.Rows.slot_tuple_getitem
    (wpAny_call_entry PyProof.Rows.slot_tuple_getitem ht.typeIs entry_tuple_getitem ?_ (args_tuple_getitem _ _)))
  show wpAny _ _ (Builtin.Tuple.tupleItemsOf (.ref t) >>= _) _ _ s
  refine wpAny_bind (tupleItemsOf_ ht ?_)
  refine wpAny_bind (wpAny_typeOf hTs ?_)
  rw [if_pos (by decide)]
  refine wpAny_bind (sliceApplied_rev hs ps ?_)
  have hno : ¬ ((((items.size : Nat) : Int) - 1 == 0 && (-1 : Int) == 1 && items.size == items.size) = true) := by
    intro q
    rw [Bool.and_eq_true, Bool.and_eq_true] at q
    exact absurd q.1.2 (by decide)
  show wpAny _ _ (if (((items.size : Nat) : Int) - 1 == 0 && (-1 : Int) == 1 && items.size == items.size) = true then _ else _) _ _ s
  rw [if_neg hno, rev_pick]
  first
    | exact wpAny_bind (m := Builtin.Tuple.tupleExact _) (wpAny_newObj_type (wpAny_pure ⟨_, rfl, wpAny_pure h⟩) htake)
    | exact wpAny_bind (m := Builtin.Tuple.tupleExact _) (wpAny_newObj_type (wpAny_bind (wpAny_pure (wpAny_pure ⟨_, rfl, wpAny_pure h⟩))) htake)
end
def tRevT (K : PySem.W.Frag) (te : TE) : TE := fun σ H Q => te σ H fun x H1 => ∃ a xs, x = .ref a ∧ SqT K H1 a xs ∧ ∀ p, H1 p = none → Q (.ref p) (upd H1 p (.tup xs.reverse))
theorem pe_revT {X : Cx} {te : TE} {pos : Pos} {e : Expr} {k : Nat} {p1 p2 p3 : Pos} (he : PE X e te) : PE X (.Subscript e (.Slice none none (some (.UnaryOp .USub (.Constant (.int 1) k p1) p2)) p3) pos) (tRevT X.K te) := by
  refine ⟨fun pins s σ H Q I h => ?_⟩
  refine Subscript_ (thn (he.run pins s σ H _ I h) fun v s1 ⟨x, H1, I1, r1, q1⟩ => ?_)
  obtain ⟨a, xs, ex, hx, q⟩ := q1
  subst ex
  cases r1
  have hst : PO X (some (.UnaryOp .USub (.Constant (.int 1) k p1) p2)) (tPart (tUn (rU fun i => .int (-i)) (tC (.int 1)))) := po_some (pe_un un_neg pe_int)
  refine wpAny_Slice (thn (po_none.run pins s1 σ H1 (fun o H2 => o = none ∧ H2 = H1) I1 ⟨rfl, rfl⟩) fun vl s2 ⟨l, H2, I2, pl, el, e2⟩ => ?_)
  subst el e2
  refine thn (po_none.run pins s2 σ H2 (fun o H3 => o = none ∧ H3 = H2) I2 ⟨rfl, rfl⟩) fun vu s3 ⟨u, H3, I3, pu, eu, e3⟩ => ?_
  subst eu e3
  refine thn (hst.run pins s3 σ H3 (fun o H4 => o = some (-1) ∧ H4 = H3) I3 ⟨1, rfl, -1, rfl, rfl, rfl⟩) fun vs s4 ⟨o, H4, I4, ps, eo, e4⟩ => ?_
  subst eo e4
  cases pl
  cases pu
  have I5 : Inv X pins σ H4 { s4 with heap := s4.heap.push { cls := .type "slice", data := .fields #[.none, .none, vs] } } := I4.kept (t' := s4.toks) fun b ob q => Heap.get?_push_of_some _ q
  obtain ⟨its, r, ht, hz⟩ := I5.tuple hx
  have hlen := r.length
  show wpAny (model X.prog X.w) X.A (subscriptTail e (.Slice none none (some (.UnaryOp .USub (.Constant (.int 1) k p1) p2)) p3) (.ref a) (.ref s4.heap.objs.size)) (EP X pins σ Q) X.xe { s4 with heap := s4.heap.push { cls := .type "slice", data := .fields #[.none, .none, vs] } }
  refine tail_any (ops := [.ref a, .ref s4.heap.objs.size]) (IsTup.typeIs (s := { s4 with heap := _ }) ht) (PyProof.Rows.slot_tuple_getitem.lookup) ?_ (by with_unfolding_all rfl)
  refine getItem_tuple_rev ht (Heap.IsSliceOf.new _ .none .none vs) ps ?_ (by rw [List.size_toArray]; omega)
  refine ⟨.ref _, _, I5.laid (t' := s4.toks) (o := .tup xs.reverse) (fun b ob q => Heap.get?_push_of_some _ q) (Nat.le_refl _) ?_, rfl, q _ (I5.hok.fresh (Nat.le_refl _))⟩
  exact ⟨by rw [List.length_reverse]; exact hz, its.reverse, r.reverse, IsTup.new _ _⟩
section
variable {X : Cx} {g : GC}
def dRevT (te : DE) : DE := fun δ st q => te δ st fun x st1 => ∃ xs, x = .tup xs ∧ q (.tup xs.reverse) st1
theorem pd_revT {e : Expr} {te : DE} {k : Nat} {p1 p2 p3 pos : Pos} (he : PD X g e te) : PD X g (.Subscript e (.Slice none none (some (.UnaryOp .USub (.Constant (.int 1) k p1) p2)) p3) pos) (dRevT te) :=
  PE.imp (pe_revT he) fun σ H Q ⟨δ, st, q, cf, h, kk⟩ => lb cf h fun d st1 v H1 l1 r1 c1 ⟨xs, ed, z⟩ => by
    subst ed
    cases r1 with
    | @tup a _ vs ha r => exact ⟨a, vs, rfl, SqT.of ha, fun p' np => Kq.tup (K := X.K) (T := g.T) (q := q) (kq_of l1 kk) c1.sr r.reverse z np⟩
end
end DL
/-! DL11: repr of data with dicts; == and != of equal data with dicts. -/
namespace DL
open PySem PySem.Spec L2
def kD : Key → PyData
  | .inl i => .int i
  | .inr x => .str x
mutual
/-- d is the data e: without lists -/
inductive Sh (st : Stt) : D → PyData → Prop
  | non : Sh st .non .none
  | bl {b : Bool} : Sh st (.bl b) (.bool b)
  | int {i : Int} : Sh st (.int i) (.int i)
  | str {x : Str} : Sh st (.str x) (.str x)
  | tup {ds : List D} {es : List PyData} : Shs st ds es → Sh st (.tup ds) (.tuple es)
  | dK {a : Addr} {kvs : List (Key × D)} {es : List PyData} : st a = some (.dK kvs) → Shs st (kvs.map (·.2)) es → Sh st (.ref a) (.dict ((kvs.map fun kv => kD kv.1).zip es))
inductive Shs (st : Stt) : List D → List PyData → Prop
  | nil : Shs st [] []
  | cons {d : D} {e : PyData} {ds : List D} {es : List PyData} : Sh st d e → Shs st ds es → Shs st (d :: ds) (e :: es)
end
theorem Shs.length {st : Stt} : ∀ {ds : List D} {es : List PyData}, Shs st ds es → ds.length = es.length
  | _, _, .nil => rfl
  | _, _, .cons _ b => by rw [List.length_cons, List.length_cons, Shs.length b]
section
variable {X : Cx} {T : List (Addr × Str)} {pins : List (Addr × Obj)} {σ : L2.St} {H : Hp} {s : Shared} {st : Stt}
theorem kv_keys {kvs : List (Key × D)} {kvs' : List (Key × V)} {vs : List (Key × Value)} (kr : KR X.K H kvs kvs') (kv : KV kvs' vs) : kvs.map (·.1) = vs.map (·.1) := kr.1.trans kv.keys
theorem kv_vals {kvs' : List (Key × V)} {vs : List (Key × Value)} (kv : KV kvs' vs) : Vals (kvs'.map (·.2)) (vs.map (·.2)) := by
  induction kv with
  | nil => exact .nil
  | cons h _ ih => exact .cons h.2 ih
theorem reads_key {P : Program} {w : World} {h : Heap} {k : Key} {v : Value} (e : (mixKind P w).is k v = true) : Reads h v (kD k) [] := by
  rcases keyIs_shape (show keyIs k v = true from e) with ⟨i, t, rfl, rfl⟩ | ⟨x, t, rfl, rfl⟩
  · exact .int i t
  · exact .str x t
theorem reads_pairs {P : Program} {w : World} {h : Heap} : ∀ {es : List DictEntry} {vs : List (Key × Value)} {ps : List PyData} {bs : List Addr}, Pairs (mixKind P w) es vs → ReadsAll h (vs.map (·.2)) ps bs →
    ReadsAll h (es.map (·.key)) (vs.map fun kv => kD kv.1) [] ∧ ReadsAll h (es.map (·.val)) ps bs
  | [], [], _, _, .nil, r => ⟨.nil, r⟩
  | e :: es, kv :: vs, _, _, .cons h1 h2 h3, r => by
    cases r with
    | cons r1 r2 =>
      obtain ⟨q1, q2⟩ := reads_pairs h3 r2
      refine ⟨ReadsAll.cons (as := []) (reads_key h1) q1, ?_⟩
      rw [List.map_cons, h2]
      exact .cons r1 q2
theorem zip_fst {α β : Type} : ∀ {xs : List α} {ys : List β}, xs.length = ys.length → (xs.zip ys).map (·.1) = xs
  | [], [], _ => rfl
  | x :: xs, y :: ys, h => by rw [List.zip_cons_cons, List.map_cons, zip_fst (by simpa using h)]
theorem zip_snd {α β : Type} : ∀ {xs : List α} {ys : List β}, xs.length = ys.length → (xs.zip ys).map (·.2) = ys
  | [], [], _ => rfl
  | x :: xs, y :: ys, h => by rw [List.zip_cons_cons, List.map_cons, zip_snd (by simpa using h)]
mutual
theorem Sh.reads (I : Inv X pins σ H s) (S : SR X.K T st H) : ∀ {d : D} {e : PyData} {v : V} {u : Value}, Sh st d e → Rep X.K H d v → RelV v u → ∃ as, Reads s.heap u e as ∧ sysModules ∉ as
  | _, _, _, _, .non, .non, r => by cases r; exact ⟨_, .none, by simp⟩
  | _, _, _, _, .bl, .bl, r => by cases r; exact ⟨_, .bool _, by simp⟩
  | _, _, _, _, .int, .int, r => by obtain ⟨t, rfl⟩ := r; exact ⟨_, .int _ t, by simp⟩
  | _, _, _, _, .str, .str, r => by obtain ⟨t, rfl⟩ := r; exact ⟨_, .str _ t, by simp⟩
  | _, _, _, _, .tup hs, .tup ha rr, r => by
    cases r
    obtain ⟨its, rv, ⟨o, ho, hc, n, hd⟩, _⟩ := I.tuple (SqT.of ha)
    obtain ⟨as, hr, hn⟩ := Shs.reads I S hs rr rv
    exact ⟨_, Reads.tuple ho hc hd hr, hn⟩
  | _, _, _, _, @Sh.dK _ a kvs es e hs, .ref, r => by
    cases r
    obtain ⟨kvs', h0, kr⟩ := S.obj _ _ e
    obtain ⟨_, hsys, vs, kv, o, des, ep, ho, hx, hdt, hko, hp, hnd⟩ := I.hok _ _ h0
    obtain ⟨bs, hr, hn⟩ := Shs.reads I S hs kr.2 (kv_vals kv)
    obtain ⟨q1, q2⟩ := reads_pairs hp hr
    have hl : (kvs.map fun kv => kD kv.1).length = es.length := by rw [List.length_map, ← hs.length, List.length_map]
    have ek : (vs.map fun kv => kD kv.1) = kvs.map fun kv => kD kv.1 := by
      have := congrArg (List.map kD) (kv_keys kr kv)
      rw [List.map_map, List.map_map] at this
      exact this.symm
    rw [ek] at q1
    refine ⟨_, Reads.dict (as := []) (bs := bs) ho hx.1 hdt (by rw [zip_fst hl]; exact q1) (by rw [zip_snd hl]; exact q2), ?_⟩
    intro hm
    rcases List.mem_append.mp hm with h | h
    · simp at h
      rw [h] at hsys
      simp at hsys
    · exact hn h
theorem Shs.reads (I : Inv X pins σ H s) (S : SR X.K T st H) : ∀ {ds : List D} {es : List PyData} {vs : List V} {us : List Value}, Shs st ds es → Reps X.K H ds vs → Vals vs us → ∃ as, ReadsAll s.heap us es as ∧ sysModules ∉ as
  | _, _, _, _, .nil, .nil, r => by cases r; exact ⟨_, .nil, by simp⟩
  | _, _, _, _, .cons h1 h2, .cons a b, r => by
    cases r with
    | cons r1 r2 =>
      obtain ⟨as, q1, n1⟩ := Sh.reads I S h1 a r1
      obtain ⟨bs, q2, n2⟩ := Shs.reads I S h2 b r2
      exact ⟨_, .cons q1 q2, fun hm => (List.mem_append.mp hm).elim n1 n2⟩
end
end
section
variable {X : Cx} {g : GC}
/-- repr(x): an int, or a tuple, a dict of data -/
def nRepr (ds : List D) (st : Stt) (q : DQ) : Prop := (∃ i : Int, ds = [.int i] ∧ i.natAbs.log2 < 1920 ∧ q (.str (toString i)) st) ∨
  ∃ d e, ds = [d] ∧ Sh st d e ∧ (∃ xs, d = .tup xs) ∧ e.showable = true ∧ e.depth + 1 ≤ 64 ∧ e.shown.length ≤ sizeLine ∧ q (.str e.shown) st
theorem cd_repr (hg : X.A.guards = some []) (hu : X.A.units + 64 < cLine) : CallD X g (.builtin "repr") nRepr := by
  intro pins s σ H xs us Q I r ⟨ds, st, q, rr, S, ho, k⟩
  rcases ho with ⟨i, e, hz, ho⟩ | ⟨d, e, ed, sh, ⟨ys, et⟩, h1, h2, h3, ho⟩
  · subst e
    obtain ⟨v, ev, rv⟩ := reps_one rr
    subst ev
    cases rv
    exact SkE.call_repr_int pins s σ H _ us Q I r ⟨i, rfl, hz, k.here S .str ho⟩
  · subst ed et
    obtain ⟨v, ev, rv⟩ := reps_one rr
    subst ev
    cases r with
    | @cons _ u _ us r1 r2 =>
      cases r2
      obtain ⟨as, hr, hn⟩ := sh.reads I S rv r1
      cases rv with
      | @tup a _ vs ha rr =>
        cases r1
        exact repr_of_reads' hr h1 (fun _ => hn) hg (by omega) (fun _ _ e => e) (fun h' u tk hk => ⟨.str e.shown, H, I.kept (t' := tk) hk, ⟨_, rfl⟩, k.here S .str ho⟩) h3
end
/-! ### == and != of equal data with dicts -/
mutual
inductive EqX (st : Stt) : Nat → D → D → Prop
  | non {n : Nat} : EqX st n .non .non
  | bl {n : Nat} {b : Bool} : EqX st n (.bl b) (.bl b)
  | int {n : Nat} {i : Int} : EqX st n (.int i) (.int i)
  | str {n : Nat} {x : Str} : EqX st n (.str x) (.str x)
  | tup {n : Nat} {ds es : List D} : EqXs st n ds es → EqX st (n + 1) (.tup ds) (.tup es)
  | dK {n : Nat} {a b : Addr} {ka kb : List (Key × D)} : st a = some (.dK ka) → st b = some (.dK kb) → ka.length = kb.length → ∀ f : Key → D, (∀ k d, valD ka k = some d → valD kb k = some (f k)) → (∀ k d, valD ka k = some d → EqX st n d (f k)) → EqX st (n + 1) (.ref a) (.ref b)
inductive EqXs (st : Stt) : Nat → List D → List D → Prop
  | nil {n : Nat} : EqXs st n [] []
  | cons {n : Nat} {d e : D} {ds es : List D} : EqX st n d e → EqXs st n ds es → EqXs st n (d :: ds) (e :: es)
end
section
variable {P : Program} {w : World} {s : Shared}
theorem treeI {n : Nat} (i : Int) (t u : Tok) : PySem.W.EqTree P w s n (.int i t) (.int i u) true := .leaf fun A _ => by
  have := SeqAt.EqAt.int_int (A := A) (s := s) i t i u
  rw [beq_self_eq_true] at this
  exact this
theorem treeS {n : Nat} (x : Str) (t u : Tok) : PySem.W.EqTree P w s n (.str x t) (.str x u) true := .leaf fun A _ => by
  have := SeqAt.EqAt.str_str (A := A) (s := s) x t x u
  rw [beq_self_eq_true] at this
  exact this
theorem treeT {n : Nat} {p q : Addr} {xs ys : Array Value} (hx : s.heap.IsTuple p xs) (hy : s.heap.IsTuple q ys) (hz : xs.size = ys.size) (h : ∀ (j : Nat) x y, xs[j]? = some x → ys[j]? = some y → PySem.W.EqTree P w s n x y true) : PySem.W.EqTree P w s (n + 1) (.ref p) (.ref q) true := by
  by_cases e : p = q
  · subst e; exact .same
  · have t := PySem.W.EqTree.tuples (prog := P) (w := w) (n := n) (e := fun _ => true) e hx hy fun j h1 h2 => h j _ _ (Array.getElem?_eq_getElem h1) (Array.getElem?_eq_getElem h2)
    have eb : ((List.range (min xs.size ys.size)).all (fun _ => true) && xs.size == ys.size) = true := by simp [hz]
    rw [eb] at t
    exact t
theorem valueAt_mem {κ : Type} [DecidableEq κ] {kvs : List (κ × Value)} {k : κ} {v : Value} (hn : (kvs.map (·.1)).Nodup) (h : (k, v) ∈ kvs) : valueAt kvs k = some v := by
  induction kvs with
  | nil => cases h
  | cons p r ih =>
    rw [List.map_cons, List.nodup_cons] at hn
    rcases List.mem_cons.mp h with e | h
    · subst e; simp [valueAt]
    · have hne : p.1 ≠ k := fun e => hn.1 (by rw [e]; exact List.mem_map.mpr ⟨_, h, rfl⟩)
      have := ih hn.2 h
      unfold valueAt at this ⊢
      rw [List.find?_cons_of_neg (by simpa using hne)]
      exact this
end
section
variable {X : Cx} {T : List (Addr × Str)} {pins : List (Addr × Obj)} {σ : L2.St} {H : Hp} {s : Shared} {st : Stt}
/-- what lies at a dict's key -/
theorem dict_at {kvs : List (Key × D)} {kvs' : List (Key × V)} {vs : List (Key × Value)} (kr : KR X.K H kvs kvs') (kv : KV kvs' vs) (k : Key) :
    (∀ v, valueAt vs k = some v → ∃ d x, valD kvs k = some d ∧ Rep X.K H d x ∧ RelV x v) ∧ ∀ d, valD kvs k = some d → ∃ v x, valueAt vs k = some v ∧ Rep X.K H d x ∧ RelV x v := by
  have h := kv.val k
  obtain ⟨h1, h2⟩ := valD_run (k := k) kr
  refine ⟨fun v hv => ?_, fun d hd => ?_⟩
  · cases e : valD kvs k with
    | none =>
      rw [h2 e, hv] at h
      exact h.elim
    | some d =>
      obtain ⟨x, e1, rx⟩ := h1 d e
      rw [e1, hv] at h
      exact ⟨d, x, rfl, rx, h⟩
  · obtain ⟨x, e1, rx⟩ := h1 d hd
    rw [e1] at h
    cases hv : valueAt vs k with
    | none => rw [hv] at h; exact h.elim
    | some v => rw [hv] at h; exact ⟨v, x, rfl, rx, h⟩
mutual
theorem EqX.tree (I : Inv X pins σ H s) (S : SR X.K T st H) : ∀ {n : Nat} {d e : D} {v w : V} {a b : Value}, EqX st n d e → Rep X.K H d v → Rep X.K H e w → RelV v a → RelV w b → PySem.W.EqTree X.prog X.w s n a b true
  | _, _, _, _, _, _, _, .non, .non, .non, r1, r2 => by cases r1; cases r2; exact .same
  | _, _, _, _, _, _, _, .bl, .bl, .bl, r1, r2 => by cases r1; cases r2; exact .same
  | _, _, _, _, _, _, _, .int, .int, .int, r1, r2 => by obtain ⟨t, rfl⟩ := r1; obtain ⟨u, rfl⟩ := r2; exact treeI _ t u
  | _, _, _, _, _, _, _, .str, .str, .str, r1, r2 => by obtain ⟨t, rfl⟩ := r1; obtain ⟨u, rfl⟩ := r2; exact treeS _ t u
  | _, _, _, _, _, _, _, .tup h, .tup ha rr, .tup hb rr', r1, r2 => by
    cases r1
    cases r2
    obtain ⟨its, rv, p1, _⟩ := I.tuple (SqT.of ha)
    obtain ⟨its', rv', p2, _⟩ := I.tuple (SqT.of hb)
    obtain ⟨hl, hg⟩ := EqXs.trees I S h rr rr' rv rv'
    exact treeT p1 p2 (by simpa using hl) fun j x y hx hy => hg j x y (by simpa using hx) (by simpa using hy)
  | _, _, _, _, _, _, _, @EqX.dK _ n a b ka kb ea eb hl f hf hg, .ref, .ref, r1, r2 => by
    cases r1
    cases r2
    by_cases hab : a = b
    · subst hab; exact .same
    obtain ⟨ka', h0, kr⟩ := S.obj _ _ ea
    obtain ⟨kb', h1, kr'⟩ := S.obj _ _ eb
    obtain ⟨_, hsys, vs, kv, dd⟩ := I.hok _ _ h0
    obtain ⟨_, hsys', vs', kv', dd'⟩ := I.hok _ _ h1
    have nd : (vs.map (·.1)).Nodup := by obtain ⟨_, _, _, _, _, _, _, _, nd⟩ := dd; exact nd
    have t := PySem.W.EqTree.dicts (n := n) (e := fun _ => true) hab hsys hsys' dd dd' fun k v y hm hy => by
      obtain ⟨d, x, hd, rx, rv⟩ := (dict_at kr kv k).1 v (valueAt_mem nd hm)
      have he := hf k d hd
      obtain ⟨y', x', hy', rx', rv'⟩ := (dict_at kr' kv' k).2 _ he
      rw [hy] at hy'
      cases hy'
      exact EqX.tree I S (hg k d hd) rx rx' rv rv'
    have len : vs.length = vs'.length := by rw [← kv.length, ← kv'.length, ← kr_len kr, ← kr_len kr']; exact hl
    have eb : (vs.length == vs'.length && vs.all fun p => (valueAt vs' p.1).isSome && true) = true := by
      rw [Bool.and_eq_true]
      refine ⟨by simp [len], List.all_eq_true.mpr fun p hp => ?_⟩
      obtain ⟨d, x, hd, rx, rv⟩ := (dict_at kr kv p.1).1 p.2 (valueAt_mem nd hp)
      obtain ⟨y', x', hy', _⟩ := (dict_at kr' kv' p.1).2 _ (hf p.1 d hd)
      rw [hy'] <;> rfl
    rw [eb] at t
    exact t
theorem EqXs.trees (I : Inv X pins σ H s) (S : SR X.K T st H) : ∀ {n : Nat} {ds es : List D} {vs ws : List V} {us us' : List Value}, EqXs st n ds es → Reps X.K H ds vs → Reps X.K H es ws → Vals vs us → Vals ws us' → us.length = us'.length ∧ ∀ (j : Nat) x y, us[j]? = some x → us'[j]? = some y → PySem.W.EqTree X.prog X.w s n x y true
  | _, _, _, _, _, _, _, .nil, .nil, .nil, r1, r2 => by cases r1; cases r2; exact ⟨rfl, fun j x y h => by simp at h⟩
  | _, _, _, _, _, _, _, .cons h hs, .cons a ar, .cons b br, r1, r2 => by
    cases r1 with
    | cons r1 rr1 =>
      cases r2 with
      | cons r2 rr2 =>
        obtain ⟨hl, hg⟩ := EqXs.trees I S hs ar br rr1 rr2
        refine ⟨by simp [hl], fun j x y hx hy => ?_⟩
        cases j with
        | zero => simp at hx hy; subst hx hy; exact EqX.tree I S h a b r1 r2
        | succ j => exact hg j x y (by simpa using hx) (by simpa using hy)
end
end
section
variable {prog : Program} {w : World}
theorem tuple_ne_same (p q : Addr) (xs ys : Array Value) (n m : Nat) (d1 d2 : Option Addr) (l1 l2 : Array (Option Value)) (hz : xs.size = ys.size) :
    MeetsIn prog w (Builtin.«tuple.__ne__» ⟨[.ref p, .ref q], []⟩)
      (fun A R s => s.heap.get? p = some { cls := .type "tuple", dict := d1, data := .seq xs n, slots := l1 } ∧ s.heap.get? q = some { cls := .type "tuple", dict := d2, data := .seq ys m, slots := l2 } ∧
        (∀ (j : Nat) (k1 : j < xs.size) (k2 : j < ys.size), SeqAt.EqIn prog w A.in1 s xs[j] ys[j] true) ∧ R (.ok (.ret (.bool false))) s) :=
  .of_wp fun A R s h => by
    obtain ⟨hp, g, dd, tk, os⟩ := s
    obtain ⟨ha, hb, he, h⟩ := h
    have sub := AutoSeq1.sub_tuple_tuple
    have len : (xs.toList.zip ys.toList).length = xs.size := by simp [hz]
    wp_walk using AutoSeq1.wpAny_loadPart' ha, AutoSeq1.wpAny_loadPart' hb, wpAny_forIn_list _ (fun rest b s' => b.1 = none ∧ s' = ⟨hp, g, dd, tk, os⟩ ∧ ∃ i, rest = (xs.toList.zip ys.toList).drop i) _
    case turn =>
      rintro ⟨y, x⟩ rest b s' ⟨hb', rfl, i, e⟩
      have lt : i < (xs.toList.zip ys.toList).length := Nat.lt_of_not_le fun h' => by
        rw [List.drop_of_length_le h'] at e
        cases e
      have k1 : i < xs.size := by omega
      have k2 : i < ys.size := by omega
      rw [List.drop_eq_getElem_cons lt] at e
      injection e with e1 e2
      have hy : y = xs[i] := by simpa using congrArg Prod.fst e1
      have hx : x = ys[i] := by simpa using congrArg Prod.snd e1
      subst hy
      subst hx
      refine wpAny_bind (he i k1 k2 _ _ ?_)
      wp_walk
      exact ⟨rfl, rfl, i + 1, e2⟩
    case fin =>
      rintro ⟨b1, b2⟩ s' ⟨hb', rfl, i, e⟩
      simp only at hb'
      subst hb'
      wp_walk
      exact ⟨_, rfl, by simpa [Builtin.Tuple.tupleCompareSizes, bne, hz] using h⟩
    case h => exact ⟨rfl, rfl, 0, rfl⟩
end
section
variable {X : Cx} {g : GC}
/-- == and != of two tuples that are equal, dicts in them -/
def oEqX (r : Bool) (a b : D) (st : Stt) (q : DQ) : Prop := ∃ xs ys n, a = .tup xs ∧ b = .tup ys ∧ n + 8 ≤ 64 ∧ EqXs st n xs ys ∧ q (.bl r) st
theorem opd_neX (hu : X.A.units + 64 < cLine) : OpD X g (compareOp .NotEq) (oEqX false) := by
  intro pins s σ H x y v u Q I rx ry ⟨a, b, st, q, ra, rb, S, ⟨xs, ys, n, ea, eb, hn, he, ho⟩, k⟩
  subst ea eb
  cases ra with
  | tup ha rr =>
    cases rb with
    | tup hb rr' =>
      cases rx
      cases ry
      obtain ⟨its, rv, p1, _⟩ := I.tuple (SqT.of ha)
      obtain ⟨its', rv', p2, _⟩ := I.tuple (SqT.of hb)
      obtain ⟨hl, hg⟩ := EqXs.trees I S he rr rr' rv rv'
      obtain ⟨⟨c1, d1, t1, l1⟩, h1, e1, n1, f1⟩ := id p1
      obtain ⟨⟨c2, d2, t2, l2⟩, h2, e2, n2, f2⟩ := id p2
      simp only at e1 f1 e2 f2
      subst e1 f1 e2 f2
      show wpAny (model X.prog X.w) X.A (richCompare .NotEq _ _) _ _ _
      refine wpAny_richCompare_same_room (T := "tuple") (op := .NotEq) ⟨_, h1, rfl⟩ ⟨_, h2, rfl⟩ F.slot_tuple_ne (call_meetsIn F.slot_tuple_ne ⟨_, h1, rfl⟩ F.entry_tuple_ne (F.args_tuple_ne_2 _ _) (tuple_ne_same _ _ its.toArray its'.toArray n1 n2 d1 d2 l1 l2 (by simpa using hl))
        ⟨h1, h2, fun j k1 k2 => ?_, (fun x => nomatch x), .bl false, H, I, rfl, k.here S .bl ho⟩) (by omega)
      refine (hg j _ _ ?_ ?_).at X.A.in1 (by show X.A.units + 1 + n < cLine; omega)
      · simp at k1 ⊢
      · simp at k2 ⊢
end
end DL
/-! DL12: sorted(l) of pairs (text, anything), all texts different. -/
namespace DL
open PySem PySem.Spec L2
section
variable {prog : Program} {w : World} {A : Around} {E : Value → Shared → Prop} {s : Shared}
/-- a pair (x, u) at v -/
def PairS (h : Heap) (v : Value) (x : Str) (u : Value) : Prop := ∃ a o t n, v = .ref a ∧ h.get? a = some o ∧ o.cls = .type "tuple" ∧ o.data = .seq #[.str x t, u] n
theorem PairS.keeps {h h' : Heap} {v : Value} {x : Str} {u : Value} (p : PairS h v x u) (k : ∀ b o, h.get? b = some o → o.cls = .type "tuple" → h'.get? b = some o) : PairS h' v x u :=
  let ⟨a, o, t, n, e, h1, h2, h3⟩ := p; ⟨a, o, t, n, e, k _ _ h1 h2, h2, h3⟩
def ltS (x y : Str) : Bool := decide (x.cps.toList < y.cps.toList)
theorem ltS_lt {x y : Str} : ltS x y = true ↔ x.cps.toList < y.cps.toList := decide_eq_true_iff
theorem ltS_no {x y : Str} : ltS x y = false ↔ ¬ x.cps.toList < y.cps.toList := decide_eq_false_iff_not
theorem swoS (k : Value → Str) : SrtO.Swo fun v u => ltS (k v) (k u) := by
  refine ⟨fun x y h => ?_, fun x y z h1 h2 => ?_⟩
  · exact ltS_no.mpr (List.lt_asymm (ltS_lt.mp h))
  · have a := ltS_no.mp h1
    have b := ltS_no.mp h2
    refine ltS_no.mpr ?_
    rw [List.not_lt] at a b ⊢
    exact List.le_trans a b
theorem cps_inj {x y : Str} (h : x.cps.toList = y.cps.toList) : x = y := by
  cases x; cases y
  simp at h
  rw [h]
theorem pairS_cmp {vs : List Value} {k : Value → Str} {u : Value → Value} (hp : ∀ v ∈ vs, PairS s.heap v (k v) (u v)) (hd : ∀ v ∈ vs, ∀ v' ∈ vs, k v = k v' → v = v') : SrtO.Cmp prog w A s (PyProof.Rows.tuples' true) (fun p => p.1 ∈ vs) (SrtO.lt2 fun v u => ltS (k v) (k u)) := by
  intro p q hm hm'
  have h1 := hp _ hm
  have h2 := hp _ hm'
  have hdd := hd _ hm _ hm'
  show wpAny (model prog w) A (PyProof.Rows.keyLt' (PyProof.Rows.tuples' true) p.1 q.1) (fun r s' => s' = s ∧ r = ltS (k p.1) (k q.1)) (fun _ _ => False) s
  generalize p.1 = v at h1 hdd ⊢
  generalize q.1 = v' at h2 hdd ⊢
  generalize k v = x at h1 hdd ⊢
  generalize k v' = x' at h2 hdd ⊢
  obtain ⟨a, o, t, n, e, ho, hc, hdt⟩ := h1
  obtain ⟨a', o', t', n', e', ho', hc', hdt'⟩ := h2
  have key : x = x' → u v = u v' := fun z => by rw [hdd z]
  rw [e, e']
  refine PySem.W.kat_lt ho hdt ho' hdt' ?_
  show PySem.W.KatLex prog w A true (decide (2 < 2)) _ [(.str x t, .str x' t'), (u v, u v')] 0 s
  refine PySem.W.kat_cons (SeqAt.EqAt.str_str x t x' t' prog w _ _ ?_)
  refine PySem.W.kat_go (fun e1 => ?_) (fun e1 => ?_)
  · have ex : x = x' := by simpa using e1
    rw [key ex]
    refine PySem.W.kat_yes (PySem.W.kat_cons (SeqAt.EqAt.same (u v') prog w _ _ ?_))
    refine PySem.W.kat_yes (PySem.W.kat_nil ⟨rfl, ?_⟩)
    rw [ex]
    exact (ltS_no.mpr (List.lt_irrefl _)).symm
  · exact PySem.W.kat_no (PyProof.Rows.oneLt_str ⟨rfl, rfl⟩)
theorem firstsS {h : Heap} {k : Value → Str} {u : Value → Value} : ∀ {vs : List Value}, (∀ v ∈ vs, PairS h v (k v) (u v)) → ∃ fs : List Value, PySem.W.KatTups h vs fs ∧ fs.length = vs.length ∧ ∀ f ∈ fs, ∃ x t, f = Value.str x t
  | [], _ => ⟨[], PySem.W.KatTups.nil, rfl, fun _ hm => by simp at hm⟩
  | v :: vs, hp => by
    obtain ⟨fs, h1, h2, h3⟩ := firstsS (vs := vs) fun v' hm => hp v' (List.mem_cons_of_mem _ hm)
    obtain ⟨a, o, t, n, e, ho, hc, hd⟩ := hp v (List.mem_cons_self ..)
    generalize u v = uv at hd
    generalize k v = x at hd
    subst e
    exact ⟨.str x t :: fs, PySem.W.KatTups.cons ho hc hd rfl h1, by simp [h2], fun f hm => (List.mem_cons.mp hm).elim (fun z => ⟨x, t, z⟩) (h3 f)⟩
theorem sortableS {a : Addr} {vs : List Value} {k : Value → Str} {u : Value → Value} (h0 : 0 < vs.length) (hp : ∀ v ∈ vs, PairS s.heap v (k v) (u v)) (hd : ∀ v ∈ vs, ∀ v' ∈ vs, k v = k v' → v = v') (ha : ∀ o, s.heap.get? a = some o → o.cls ≠ .type "tuple") :
    SrtO.SortableO prog w A s a vs fun v u => ltS (k v) (k u) := by
  intro h' keep
  have hp' : ∀ v ∈ vs, PairS h' v (k v) (u v) := fun v hm => (hp v hm).keeps fun b o e c => keep b o (fun z => by subst z; exact ha o e c) e
  obtain ⟨fs, h1, h2, h3⟩ := firstsS hp'
  refine ⟨PyProof.Rows.tuples' true, fun Q E hq => ?_, pairS_cmp hp' hd⟩
  refine PySem.W.kat_kind (T := .type "str") h1 (by omega) (fun f hm => ?_) (by rfl) ?_
  · obtain ⟨x, t, rfl⟩ := h3 f hm
    exact PySem.W.Looks.now
  · have e : (Value.type "str" != Value.type "tuple") = true := by first | decide +kernel | rfl | decide
    rw [e]
    exact hq
end
/-- a value that stands for d -/
def RU (K : PySem.W.Frag) (H : Hp) (d : D) (u : Value) : Prop := ∃ v, Rep K H d v ∧ RelV v u
theorem ru_of {K : PySem.W.Frag} {H : Hp} : ∀ {ds : List D} {vs : List V} {us : List Value}, Reps K H ds vs → Vals vs us → Paired (RU K H) ds us
  | _, _, _, .nil, r => by cases r; exact .nil
  | _, _, _, .cons a b, r => by
    cases r with
    | cons r1 r2 => exact .cons ⟨_, a, r1⟩ (ru_of b r2)
theorem ru_to {K : PySem.W.Frag} {H : Hp} : ∀ {ds : List D} {us : List Value}, Paired (RU K H) ds us → ∃ vs, Reps K H ds vs ∧ Vals vs us
  | _, _, .nil => ⟨[], .nil, .nil⟩
  | _, _, .cons ⟨v, a, b⟩ r => let ⟨vs, x, y⟩ := ru_to r; ⟨v :: vs, .cons a x, .cons b y⟩
theorem paired_perm {α β : Type} {R : α → β → Prop} {us out : List β} (p : out.Perm us) : ∀ {ds : List α}, Paired R ds us → ∃ ds', ds'.Perm ds ∧ Paired R ds' out := by
  induction p with
  | nil => intro ds h; cases h; exact ⟨[], .nil, .nil⟩
  | @cons x l1 l2 _ ih =>
    intro ds h
    cases h with
    | @cons d _ ds _ a b =>
      obtain ⟨ds', p1, p2⟩ := ih b
      exact ⟨d :: ds', p1.cons d, .cons a p2⟩
  | @swap x y l =>
    intro ds h
    cases h with
    | @cons d _ ds _ a b =>
      cases b with
      | @cons e _ es _ b c => exact ⟨e :: d :: es, .swap d e es, .cons b (.cons a c)⟩
  | trans _ _ ih1 ih2 =>
    intro ds h
    obtain ⟨d1, p1, q1⟩ := ih2 h
    obtain ⟨d2, p2, q2⟩ := ih1 q1
    exact ⟨d2, p2.trans p1, q2⟩
theorem paired_at {α β : Type} {R : α → β → Prop} : ∀ {xs : List α} {ys : List β}, Paired R xs ys → ∀ y ∈ ys, ∃ x ∈ xs, R x y
  | _, _, .nil, y, h => by cases h
  | _, _, .cons a b, y, h => by
    rcases List.mem_cons.mp h with e | h
    · subst e; exact ⟨_, List.mem_cons_self, a⟩
    · obtain ⟨x, h1, h2⟩ := paired_at b y h
      exact ⟨x, List.mem_cons_of_mem _ h1, h2⟩
theorem paired_pw {α β : Type} {R : α → β → Prop} {S : α → α → Prop} {Z : β → β → Prop} (hz : ∀ a b x y, R a x → R b y → Z x y → S a b) : ∀ {xs : List α} {ys : List β}, Paired R xs ys → ys.Pairwise Z → xs.Pairwise S
  | _, _, .nil, _ => .nil
  | _, _, @Paired.cons _ _ _ a x xs ys h t, p => by
    rw [List.pairwise_cons] at p ⊢
    refine ⟨fun b hb => ?_, paired_pw hz t p.2⟩
    obtain ⟨y, hy, hr⟩ : ∃ y ∈ ys, R b y := by
      clear p h
      induction t with
      | nil => cases hb
      | cons h _ ih =>
        rcases List.mem_cons.mp hb with e | hb
        · subst e; exact ⟨_, List.mem_cons_self, h⟩
        · obtain ⟨y, h1, h2⟩ := ih hb
          exact ⟨y, List.mem_cons_of_mem _ h1, h2⟩
    exact hz _ _ _ _ h hr (p.1 y hy)
/-- the text ahead in a pair -/
def fstS : D → Option Str
  | .tup [.str x, _] => some x
  | _ => none
def strOf : Value → Str
  | .str x _ => x
  | _ => ⟨#[]⟩
def itemsOf (h : Heap) : Value → Array Value
  | .ref a => ((h.get? a).elim #[] fun o => match o.data with
    | .seq xs _ => xs
    | _ => #[])
  | _ => #[]
def keyOf (h : Heap) (v : Value) : Str := strOf ((itemsOf h v).getD 0 .none)
def sndOf (h : Heap) (v : Value) : Value := (itemsOf h v).getD 1 .none
section
variable {X : Cx} {g : GC}
theorem pairS_of {pins : List (Addr × Obj)} {σ : L2.St} {H : Hp} {s : Shared} (I : Inv X pins σ H s) {d : D} {u : Value} {x : Str} (r : RU X.K H d u) (h : fstS d = some x) : keyOf s.heap u = x ∧ PairS s.heap u (keyOf s.heap u) (sndOf s.heap u) := by
  obtain ⟨v, rv, ru⟩ := r
  match d, h, rv with
  | .tup [.str y, d2], h, .tup (a := a) ha (.cons r1 (.cons r2 .nil)) =>
    cases h
    cases ru
    cases r1
    obtain ⟨its, rr, ⟨⟨oc, od, dt, sl⟩, ho, hc, n, hd⟩, _⟩ := I.tuple (SqT.of ha)
    cases rr with
    | @cons _ u1 _ us q1 rr =>
      cases rr with
      | @cons _ u2 _ us q2 rr =>
        cases rr
        obtain ⟨t, rfl⟩ := q1
        simp only at hd hc
        subst hd
        have e0 : itemsOf s.heap (.ref a) = #[.str x t, u2] := by
          show ((s.heap.get? a).elim #[] _) = _
          rw [ho] <;> rfl
        have e1 : keyOf s.heap (.ref a) = x := by unfold keyOf; rw [e0] <;> rfl
        have e2 : sndOf s.heap (.ref a) = u2 := by unfold sndOf; rw [e0] <;> rfl
        exact ⟨e1, a, _, t, n, rfl, ho, hc, by rw [e1, e2]⟩
/-- sorted(l): pairs with different texts -/
def nSort (ds : List D) (st : Stt) (q : DQ) : Prop := ∃ a xs, ds = [.ref a] ∧ st a = some (.lst xs) ∧ (∀ d ∈ xs, ∃ x, fstS d = some x) ∧ (xs.map fstS).Nodup ∧
  ∀ p ys, st p = none → ys.Perm xs → ys.Pairwise (fun c d => ∀ x y, fstS c = some x → fstS d = some y → ¬ y.cps.toList < x.cps.toList) → q (.ref p) (put st p (.lst ys))
theorem cd_sorted : CallD X g (.builtin "sorted") nSort := by
  intro pins s σ H xs us Q I r ⟨ds, st, q, rr, S, ⟨a, ys, ed, ea, hf, hn, ho⟩, k⟩
  subst ed
  obtain ⟨v, ev, rv⟩ := reps_one rr
  subst ev
  cases rv
  rw [Vals.ref1 r]
  obtain ⟨vs, h0, rd⟩ := S.obj _ _ ea
  obtain ⟨its, rv, hl, hz⟩ := I.list (SqL.of h0)
  have R : Paired (RU X.K H) ys its := ru_of rd rv
  have hp : ∀ v ∈ its, PairS s.heap v (keyOf s.heap v) (sndOf s.heap v) := fun v hv => by
    obtain ⟨d, hd, hr⟩ := paired_at R v hv
    obtain ⟨x, hx⟩ := hf d hd
    exact (pairS_of I hr hx).2
  have hd : ∀ v ∈ its, ∀ v' ∈ its, keyOf s.heap v = keyOf s.heap v' → v = v' := by
    clear hp hl hz rv rd ea h0 ho
    induction R with
    | nil => intro v hv; cases hv
    | @cons d u ds us' h t ih =>
      rw [List.map_cons, List.nodup_cons] at hn
      have hf' : ∀ d ∈ ds, ∃ x, fstS d = some x := fun d hd => hf d (List.mem_cons_of_mem _ hd)
      obtain ⟨x, hx⟩ := hf d List.mem_cons_self
      have key : ∀ v ∈ us', keyOf s.heap u ≠ keyOf s.heap v := fun v hv e => by
        obtain ⟨d', hd', hr'⟩ := paired_at t v hv
        obtain ⟨x', hx'⟩ := hf' d' hd'
        rw [(pairS_of I h hx).1, (pairS_of I hr' hx').1] at e
        subst e
        exact hn.1 (List.mem_map.mpr ⟨d', hd', hx'.trans hx.symm⟩)
      intro v hv v' hv' e
      rcases List.mem_cons.mp hv with z | hv
      · rcases List.mem_cons.mp hv' with z' | hv'
        · rw [z, z']
        · rw [z] at e; exact absurd e (key v' hv')
      · rcases List.mem_cons.mp hv' with z' | hv'
        · rw [z'] at e; exact absurd e.symm (key v hv)
        · exact ih hf' hn.2 v hv v' hv' e
  refine SrtO.sorted_ord (swoS (keyOf s.heap)) hl.isList (by rw [← rv.length]; exact hz) (fun h2 h₁ a ha kk => ?_) fun out hs hb => ?_
  · refine sortableS (s := { s with heap := h₁ }) (u := sndOf s.heap) (by omega) (fun v hm => (hp v hm).keeps fun b o e _ => (kk b o e).2) hd fun o e => ?_
    have e' : some o = some (PyProof.Rows.seqObj "list" its.toArray 0) := e.symm.trans ha
    cases e'
    intro c
    exact absurd (Value.type.inj c) (by decide)
  · obtain ⟨ep, he'⟩ := PyProof.Rows.sortedAll_at s.heap its out.toArray
    obtain ⟨ys', p1, p2⟩ := paired_perm hb.perm R
    obtain ⟨ws, r1, r2⟩ := ru_to p2
    have hlen : ws.length ≤ sizeLine := by
      rw [← r1.length, p1.length_eq, rd.length]
      exact hz
    have np := I.hok.fresh (a := s.heap.objs.size + 1) (Nat.le_succ _)
    refine ⟨.ref _, upd H (s.heap.objs.size + 1) (.lst ws), I.laid (t' := s.toks) (fun _ _ => PyProof.Rows.sortedAll_old) (Nat.le_succ _) ⟨hlen, out, ep, r2, he'⟩, rfl, ?_⟩
    refine Kq.lst (K := X.K) (T := g.T) (q := q) (ds := ys') k S r1 (fun p hp' => ho p ys' hp' p1 (paired_pw (S := fun c d => ∀ x y, fstS c = some x → fstS d = some y → ¬ y.cps.toList < x.cps.toList) (fun c d x y hc hd hz' x' y' hx' hy' => ?_) p2 hs)) np
    have hz' : ltS (keyOf s.heap y) (keyOf s.heap x) = false := hz'
    rw [(pairS_of I hc hx').1, (pairS_of I hd hy').1] at hz'
    exact ltS_no.mp hz'
end
end DL
/-! DL13: a lambda handed to a def that calls it inside try with three clauses. -/
namespace DL
open PySem PySem.Spec L2
/-- which clause takes an exception of the class C -/
inductive Res (K : PySem.W.Frag) (C : Addr) : List (Addr × Str) → Str → Prop
  | hit {c : Addr} {s : Str} {r : List (Addr × Str)} : PySem.W.exmOne K (.ref C) (.ref c) = some true → Res K C ((c, s) :: r) s
  | miss {c : Addr} {z s : Str} {r : List (Addr × Str)} : PySem.W.exmOne K (.ref C) (.ref c) = some false → Res K C r s → Res K C ((c, z) :: r) s
def TTw (K : PySem.W.Frag) (hs : List (Addr × Str)) (ret : Str) : (XK → Hp → VK → Prop) → Hp → VK → Prop := fun tl H Q =>
  tl (fun cls _ H' => ∃ C s, cls = .ref C ∧ Res K C hs s ∧ Q (.str s) H') H (fun _ H' => Q (.str ret) H')
abbrev tsW (r : Str) : Addr → Value → Option Addr → TS := fun _ _ _ => tRet (tC (.str r))
theorem many_res {K : PySem.W.Frag} {C : Addr} {D : Ends} {Wout : WX} {d : Option Addr} {σ : L2.St} {H : Hp} {s : Str} (hq : D.rt (.str s) H) : ∀ {hs : List (Addr × Str)}, Res K C hs s → wMany K Wout D (hs.map fun p => (.ref p.1, tsW p.2)) (.ref C) d σ H := by
  intro hs r
  induction r with
  | hit e => exact ⟨true, e, fun _ a _ => hq, fun z => nomatch z⟩
  | miss e _ ih => exact ⟨false, e, (fun z => nomatch z), fun _ => ih hq⟩
section
variable {X : Cx} {g : GC}
theorem word_gives {Ng : List Str} {x a q e1 e2 e3 r1 r2 r3 r4 : Str} {sg : Scope} {gA C1 C2 C3 : Addr} {cdg : Value} {j1 j2 j3 j4 : Nat} {p1 p2 p3 p8 p9 a1 a2 a3 a4 b1 b2 b3 b4 c1 c2 c3 c4 d1 : Pos}
    (g1 : sg.names.lookup e1 = some .globalImplicit) (g2 : sg.names.lookup e2 = some .globalImplicit) (g3 : sg.names.lookup e3 = some .globalImplicit) (m1 : X.mg e1 = some (.ref C1)) (m2 : X.mg e2 = some (.ref C2)) (m3 : X.mg e3 = some (.ref C3))
    (d1' : (e1 == ("__debug__" : Str)) = false) (d2' : (e2 == ("__debug__" : Str)) = false) (d3' : (e3 == ("__debug__" : Str)) = false) (h0 : ∀ f : Addr, (L2.start Ng [V.ref f])[0]? = some (some (V.ref f)))
    (hsw : ∀ s H, swapsWith (.Call (.Name a p1) [] [] p2) none p3.line (cxOf C8.CX0 X.prog X.w X.K X.mg X.base Ng x sg gA cdg X.A X.stack s H C8.E0).env = pure false) :
    LamX.GivesTo X Ng x sg gA cdg [.Try [.Expr (.Call (.Name a p1) [] [] p2) p3] [.ExceptHandler (some (.Name e1 a1)) none [.Return (some (.Constant (.str r1) j1 a2)) a3] a4, .ExceptHandler (some (.Name e2 b1)) none [.Return (some (.Constant (.str r2) j2 b2)) b3] b4,
        .ExceptHandler (some (.Name e3 c1)) none [.Return (some (.Constant (.str r3) j3 c2)) c3] c4] [] [] p8, .Return (some (.Constant (.str r4) j4 d1)) p9] a q (TTw X.K [(C1, r1), (C2, r2), (C3, r3)] r4) := by
  intro f c' s H Q tl act hc h
  have n1 : Gl (cxOf C8.CX0 X.prog X.w X.K X.mg X.base Ng x sg gA cdg X.A X.stack s H C8.E0).nox e1 := g1
  have n2 : Gl (cxOf C8.CX0 X.prog X.w X.K X.mg X.base Ng x sg gA cdg X.A X.stack s H C8.E0).nox e2 := g2
  have n3 : Gl (cxOf C8.CX0 X.prog X.w X.K X.mg X.base Ng x sg gA cdg X.A X.stack s H C8.E0).nox e3 := g3
  have hh : HdsOk (cxOf C8.CX0 X.prog X.w X.K X.mg X.base Ng x sg gA cdg X.A X.stack s H C8.E0).nox [.ExceptHandler (some (.Name e1 a1)) none [.Return (some (.Constant (.str r1) j1 a2)) a3] a4, .ExceptHandler (some (.Name e2 b1)) none [.Return (some (.Constant (.str r2) j2 b2)) b3] b4,
      .ExceptHandler (some (.Name e3 c1)) none [.Return (some (.Constant (.str r3) j3 c2)) c3] c4] [(.ref C1, tsW r1), (.ref C2, tsW r2), (.ref C3, tsW r3)] :=
    .cons ⟨n1, d1', .inl m1⟩ (fun _ _ _ _ _ _ _ => pss_one (ps_ret pe_str)) (.cons ⟨n2, d2', .inl m2⟩ (fun _ _ _ _ _ _ _ => pss_one (ps_ret pe_str)) (.cons ⟨n3, d3', .inl m3⟩ (fun _ _ _ _ _ _ _ => pss_one (ps_ret pe_str)) .nil))
  refine ⟨_, pss_cons (ps_try_many (X := (cxOf C8.CX0 X.prog X.w X.K X.mg X.base Ng x sg gA cdg X.A X.stack s H C8.E0).nox) (Wout := fun _ _ _ _ => False)
      (tb := fun W D σ H => ∃ Ech : XK, (∀ cls d σ' H', Ech cls d H' → W cls d σ' H') ∧ σ[0]? = some (some (.ref f)) ∧ H c' = some (LamX.CodeO c' q) ∧ tl Ech H (fun _ H1 => D.nx σ H1))
      rfl rfl LamX.takes0 (fun W pn xe tk _ => ?_) hh) (pss_one (ps_ret pe_str)), ?_⟩
  · refine ⟨fun pins s' σ H' D I h' => ?_⟩
    obtain ⟨Ech, hW, h1, h2, h3⟩ := h'
    have hp := act W pn xe Ech p1 p2 tk hW
    have hq := pss_one (ps_expr (pos := p3) hp (hsw s H))
    exact hq.run pins s' σ H' D I ⟨h1, h2, h3⟩
  · refine ⟨fun cls _ H' => ∃ C s, cls = .ref C ∧ Res X.K C [(C1, r1), (C2, r2), (C3, r3)] s ∧ Q (.str s) H', fun cls d σ' H' ⟨C, s, ec, r, hq⟩ => ?_, h0 f, hc, h⟩
    subst ec
    exact many_res hq r
theorem extN_le {H H1 : Hp} (e : LamX.ExtN H H1) : Le H H1 := ⟨fun a xs h => e _ _ h (fun ps z => nomatch z), fun a o u h => e _ _ h (fun ps z => nomatch z)⟩
theorem SR.extN {K : PySem.W.Frag} {T : List (Addr × Str)} {st : Stt} {H H1 : Hp} (S : SR K T st H) (e : LamX.ExtN H H1) (t : LamX.Tabs T H1) : SR K T st H1 := ⟨fun a o ha => by
  have ho := S.obj a o ha
  obtain ⟨u, q1, mu⟩ := ho.some
  exact ho.stay (extN_le e) ((e a u q1 fun ps z => by subst z; exact mu).trans q1.symm), t⟩
/-- what a def that makes lambdas must know of its code object c and its table P -/
structure LamF (X : Cx) (g : GC) (c P : Addr) : Prop where
  tb : LamX.TabB X.base X.mg c P
  code : X.env.code = .ref c
  mem : (P, X.env.qual ++ "<lambda>") ∈ g.T
  uniq : ∀ p ∈ g.T, p.1 = P → p.2 = X.env.qual ++ "<lambda>"
def dWord (K : PySem.W.Frag) (hs : List (Addr × Str)) (ret : Str) (dt : DXE → DE) : DE := fun δ st q => dt (fun x _ st' => ∃ s, Res K x.cls hs s ∧ q (.str s) st') δ st (fun _ st' => q (.str ret) st')
theorem pd_lamword {gb : Bool} {j : Nat} {ex : DXE} {hs : List (Addr × Str)} {ret : Str} {x a : Str} {gA c P : Addr} {k : Nat} {pg : Arguments} {bg : List Stmt} {sg : Scope} {dV kV doc pm cdv ct oc : Value} {an od : Option Addr} {osl : Array (Option Value)} {Ng : List Str}
    {params : Arguments} {body : Expr} {scope : Scope} {dt : DXE → DE} {p lpos pos : Pos} (C : Ct X g gb j ex) (F : LamF X g c P) (hm : X.mg x = some (.ref gA)) (hk : PySem.W.keepIn X.K (.ref gA) = true)
    (lk : X.K.lookup gA = some ⟨oc, od, .func (PySem.W.fnOf x x pg bg sg dV kV doc pm an cdv ct), osl⟩) (hcg : PySem.W.codeIn X.K cdv x = true) (hb : L2.Binds X.K (PySem.W.fnOf x x pg bg sg dV kV doc pm an cdv ct) [a] []) (Sg : FnScope Ng [a] sg)
    (hG : LamX.GivesTo X Ng x sg gA cdv bg a (X.env.qual ++ "<lambda>") (TTw X.K hs ret)) (hkj : k + 2 ≤ j)
    (hbody : ∀ (A : Around) (outer : List PySem.Env) (s : Shared) (H : Hp) (E : XK) (f c' : Addr) (H0 : Hp) (ex : DXE), Ct (LamX.lamCx X A outer s H E scope f c') ⟨g.T, H0⟩ false k ex → PD (LamX.lamCx X A outer s H E scope f c') ⟨g.T, H0⟩ body (dt ex))
    (hg : Gl X x := by rfl) (hNg : Ng[0]? = some a := by rfl) (hva : Vis sg a := by exact .inl rfl) (L : LamX.LamS X.env.scope scope := by exact LamX.lamS_by (by rfl)) (hdef : defaultsOf params X.env = ([], []) := by rfl)
    (hbind : ∀ (q : Str) (cl : List (Str × Addr)) (pm cv ctv : Value), bindArgs (PySem.W.kla_fn "<lambda>" q params body scope cl pm cv ctv) ⟨[], []⟩ = pure [] := by exact fun _ _ _ _ _ => rfl)
    (hdb : (x == ("__debug__" : Str)) = false := by decide) (hd : (a == ("__debug__" : Str)) = false := by decide) (hcd : (a == ("__classdict__" : Str)) = false := by decide) :
    PD X g (.Call (.Name x p) [.Lambda params body scope lpos] [] pos) (dWord X.K hs ret dt) := by
  refine PE.imp (LamX.pe_lamcall (T := g.T) (TT := TTw X.K hs ret) (k := k) (t := fun E σ H' Q' => ∃ ex : DXE, (∀ y δ st cls dd σ' H'', Cfg X.K ⟨g.T, H'⟩ δ st σ' H'' → XR X.K H'' y cls dd → ex y δ st → E cls dd H'') ∧ lft X.K ⟨g.T, H'⟩ (dt ex) σ H' Q')
    hg hm hk lk hcg hb Sg hNg hva hG F.tb F.code F.mem F.uniq (C.room.mono hkj) L hdef hbind (fun A outer s H E f c' hr => ⟨fun pins s' σ H' Q I ⟨ex', hE, h⟩ => ?_⟩) hdb hd hcd) fun σ H Q ⟨δ, st, q, cf, h, kk⟩ => ?_
  · have ct : Ct (LamX.lamCx X A outer s H E scope f c') ⟨g.T, H'⟩ false k ex' :=
      ⟨⟨hr, (fun z => nomatch z), rfl, C.nd, (takes_of rfl rfl rfl rfl).imp fun cl d σ' H'' ⟨y, δ, st, cf, xr, z⟩ => hE y δ st cl d σ' H'' cf xr z⟩, passes_of rfl⟩
    exact (hbody A outer s H E f c' H' ex' ct).run pins s' σ H' Q I h
  · refine ⟨cf.sr.tab, fun H1 eN T1 => ?_⟩
    have le := extN_le eN
    have S1 := cf.sr.extN eN T1
    refine ⟨fun y _ st' => ∃ s, Res X.K y.cls hs s ∧ q (.str s) st', fun y δ' st' cls dd σ' H'' cf' xr ⟨s, r, z⟩ => ⟨y.cls, s, xr.1, r, kk _ st' _ H'' (le.trans cf'.le) .str cf'.sr z⟩, ?_⟩
    exact ⟨δ, st, fun _ st' => q (.str ret) st', ⟨Le.refl, cf.env.mono le, S1⟩, h, fun d st' v H' l r s z => kk _ st' _ H' (le.trans l) .str s z⟩
end
end DL
/-! K1: what the defs of k73's text are to do. -/
namespace K73
open PySem PySem.Spec L2 DL
/-! ### plain notions -/
def RK : List (Str × Int) := [("a", 0), ("b", 0), ("c", 0), ("f", 2), ("g", 2), ("h", 3), ("s", 1), ("t", 1)]
def SG : Str := "abcfghst"
def SGs : List Str := ["a", "b", "c", "f", "g", "h", "s", "t"]
def rk (x : Str) : Nat := ((RK.lookup x).getD 0).toNat
/-- what lay, lies as it was -/
def Ext (st st' : Stt) : Prop := ∀ a o, st a = some o → st' a = some o
/-- .. but for h -/
def Mov (h : Addr) (st st' : Stt) : Prop := ∀ a o, a ≠ h → st a = some o → st' a = some o
def isIntD : D → Bool
  | .int _ => true
  | _ => false
def inR (d : D) (lo hi : Int) : Bool := match d with
  | .int i => decide (lo ≤ i) && decide (i ≤ hi)
  | _ => false
def isSignD : D → Bool
  | .str x => (RK.lookup x).isSome
  | _ => false
def formD : D → Bool
  | .tup (.str x :: xs) => (match RK.lookup x with
    | some r => decide ((xs.length : Int) = r)
    | none => false)
  | _ => false
/-- something of a known type, parts of tuples and values of dicts too -/
inductive Ty (st : Stt) : D → Prop
  | non : Ty st .non
  | bl {b : Bool} : Ty st (.bl b)
  | int {i : Int} : Ty st (.int i)
  | str {x : Str} : Ty st (.str x)
  | tup {ds : List D} : ds.length ≤ 1000 → (∀ d ∈ ds, Ty st d) → Ty st (.tup ds)
  | lst {a : Addr} {ds : List D} : st a = some (.lst ds) → Ty st (.ref a)
  | dK {a : Addr} {kvs : List (Key × D)} : st a = some (.dK kvs) → (∀ p ∈ kvs, Ty st p.2) → Ty st (.ref a)
def kidsD : D → List D
  | .tup (_ :: xs) => xs
  | _ => []
/-- is_tree's walk; the stack's top ahead -/
def wlk : Nat → Nat → List (D × Nat) → Bool
  | 0, _, _ => false
  | _ + 1, _, [] => true
  | f + 1, many, (d, k) :: r => if many + 1 > 300 ∨ k > 40 ∨ formD d = false then false else wlk f (many + 1) (((kidsD d).map fun p => (p, k + 1)).reverse ++ r)
def treeB (d : D) : Bool := wlk 302 0 [(d, 1)]
/-! ### trees -/
inductive Tr where
  | a0 (x : Str)
  | a1 (x : Str) (t : Tr)
  | a2 (x : Str) (t u : Tr)
  | a3 (x : Str) (t u v : Tr)
def Tr.d : Tr → D
  | .a0 x => .tup [.str x]
  | .a1 x t => .tup [.str x, t.d]
  | .a2 x t u => .tup [.str x, t.d, u.d]
  | .a3 x t u v => .tup [.str x, t.d, u.d, v.d]
def Tr.ok : Tr → Prop
  | .a0 x => RK.lookup x = some 0
  | .a1 x t => RK.lookup x = some 1 ∧ t.ok
  | .a2 x t u => RK.lookup x = some 2 ∧ t.ok ∧ u.ok
  | .a3 x t u v => RK.lookup x = some 3 ∧ t.ok ∧ u.ok ∧ v.ok
def Tr.size : Tr → Nat
  | .a0 _ => 1
  | .a1 _ t => 1 + t.size
  | .a2 _ t u => 1 + t.size + u.size
  | .a3 _ t u v => 1 + t.size + u.size + v.size
def Tr.deep : Tr → Nat
  | .a0 _ => 1
  | .a1 _ t => 1 + t.deep
  | .a2 _ t u => 1 + max t.deep u.deep
  | .a3 _ t u v => 1 + max t.deep (max u.deep v.deep)
def Tr.kids : Tr → List Tr
  | .a0 _ => []
  | .a1 _ t => [t]
  | .a2 _ t u => [t, u]
  | .a3 _ t u v => [t, u, v]
def Tr.sg : Tr → Str
  | .a0 x => x
  | .a1 x _ => x
  | .a2 x _ _ => x
  | .a3 x _ _ _ => x
def nI (ns : List Int) : List D := ns.map D.int
/-- node_rows: a node's path and the node, ahead of all below -/
def rowsL : List Int → Tr → List D
  | p, .a0 x => [.tup [.tup (nI p), (Tr.a0 x).d]]
  | p, .a1 x t => .tup [.tup (nI p), (Tr.a1 x t).d] :: rowsL (p ++ [0]) t
  | p, .a2 x t u => .tup [.tup (nI p), (Tr.a2 x t u).d] :: (rowsL (p ++ [0]) t ++ rowsL (p ++ [1]) u)
  | p, .a3 x t u v => .tup [.tup (nI p), (Tr.a3 x t u v).d] :: (rowsL (p ++ [0]) t ++ (rowsL (p ++ [1]) u ++ rowsL (p ++ [2]) v))
/-! ### types -/
structure Srt where
  many : Nat
  kvs : List (Str × List Int)
  good : List Int
def Srt.tbl (S : Srt) : List (Key × D) := S.kvs.map fun p => (.inr p.1, .tup (nI p.2))
def Srt.d (S : Srt) (a : Addr) : D := .tup [.int S.many, .ref a, .tup (nI S.good)]
structure Srt.Ok (S : Srt) : Prop where
  m1 : 1 ≤ S.many
  m5 : S.many ≤ 5
  keys : (S.kvs.map (·.1)).Perm SGs
  rows : ∀ p ∈ S.kvs, p.2.length = S.many ^ rk p.1 ∧ ∀ n ∈ p.2, 0 ≤ n ∧ n < (S.many : Int)
  good : ∀ n ∈ S.good, 0 ≤ n ∧ n < (S.many : Int)
  inc : S.good.Pairwise (· < ·)
def Srt.row (S : Srt) (x : Str) : List Int := (S.kvs.lookup x).getD []
def place (m : Nat) (ns : List Int) : Int := ns.foldl (fun p n => p * m + n) 0
def num (S : Srt) : Tr → Int
  | .a0 x => (S.row x).getD (place S.many []).toNat 0
  | .a1 x t => (S.row x).getD (place S.many [num S t]).toNat 0
  | .a2 x t u => (S.row x).getD (place S.many [num S t, num S u]).toNat 0
  | .a3 x t u v => (S.row x).getD (place S.many [num S t, num S u, num S v]).toNat 0
def rowF (n : Int) (l : Nat) : D → Bool
  | .tup xs => decide (xs.length = l) && xs.all fun x => inR x 0 (n - 1)
  | _ => false
def incF : List D → Bool
  | .int a :: .int b :: r => decide (a < b) && incF (.int b :: r)
  | _ => true
def goodF (n : Int) : D → Bool
  | .tup xs => (xs.all fun x => inR x 0 (n - 1)) && incF xs
  | _ => false
def rulesF (st : Stt) (n : Int) : D → Bool
  | .ref a => (match st a with
    | some (.dK kvs) => decide (kvs.length = 8) && ((SGs.all fun x => (valD kvs (.inr x)).isSome) && SGs.all fun x => match valD kvs (.inr x) with
      | some r => rowF n (n.toNat ^ rk x) r
      | none => false)
    | _ => false)
  | _ => false
def isTypeF (st : Stt) : D → Bool
  | .tup [m, r, g] => inR m 1 5 && match m with
    | .int n => rulesF st n r && goodF n g
    | _ => false
  | _ => false
/-! ### the law's hand -/
def HandOk (st : Stt) (h : Addr) : Prop := ∃ (c : Addr) (cells : List Int) (i j k l : Int), c ≠ h ∧ st h = some (.lst [.ref c, .int i, .int j, .int k, .int l]) ∧ st c = some (.lst (nI cells)) ∧ 0 ≤ i
/-- draws: all but h is as it was, its cells are the same -/
def Dr (h : Addr) (st st' : Stt) : Prop := Mov h st st' ∧ HandOk st' h ∧ ∀ c r, st h = some (.lst (c :: r)) → ∃ r', st' h = some (.lst (c :: r'))
/-! ### what is known of the module -/
structure Gn where
  K : PySem.W.Frag
  mg : Str → Option Value
  cNoTree : Addr
  cNoType : Addr
  cTell : Addr
  ranks : Addr
def Gn.hs (Γ : Gn) : List (Addr × Str) := [(Γ.cNoType, "type"), (Γ.cNoTree, "tree"), (Γ.cTell, "other")]
def Gn.ret (_ : Gn) : Str := "let"
structure Fx (Γ : Gn) (w : World) : Prop where
  f_isinstance : Γ.mg "isinstance" = none
  f_len : Γ.mg "len" = none
  f_all : Γ.mg "all" = none
  f_range : Γ.mg "range" = none
  f_list : Γ.mg "list" = none
  f_tuple : Γ.mg "tuple" = none
  f_dict : Γ.mg "dict" = none
  f_int : Γ.mg "int" = none
  f_bool : Γ.mg "bool" = none
  f_str : Γ.mg "str" = none
  f_abs : Γ.mg "abs" = none
  f_repr : Γ.mg "repr" = none
  f_sorted : Γ.mg "sorted" = none
  f_enumerate : Γ.mg "enumerate" = none
  g_RANKS : Γ.mg "RANKS" = some (.ref Γ.ranks)
  w_RANKS : WDct Γ.K w Γ.ranks RK
  s_SIGNS : ∃ t, Γ.mg "SIGNS" = some (.str "abcfghst" t)
  i_MOST_NODES : ∃ t, Γ.mg "MOST_NODES" = some (.int 300 t)
  i_MOST_DEEP : ∃ t, Γ.mg "MOST_DEEP" = some (.int 40 t)
  i_MOST_MANY : ∃ t, Γ.mg "MOST_MANY" = some (.int 5 t)
  g_Tell : Γ.mg "TellError" = some (.ref Γ.cTell)
  x_NoTree : ExcC Γ.K Γ.mg "NoTree" Γ.cNoTree
  x_NoType : ExcC Γ.K Γ.mg "NoType" Γ.cNoType
  m_tt : PySem.W.exmOne Γ.K (.ref Γ.cNoType) (.ref Γ.cNoType) = some true
  m_rt : PySem.W.exmOne Γ.K (.ref Γ.cNoTree) (.ref Γ.cNoType) = some false
  m_rr : PySem.W.exmOne Γ.K (.ref Γ.cNoTree) (.ref Γ.cNoTree) = some true
theorem bt_isinstance : bootBuiltins "isinstance" = some (.builtin "isinstance") := by decide +kernel
theorem bt_len : bootBuiltins "len" = some (.builtin "len") := by decide +kernel
theorem bt_all : bootBuiltins "all" = some (.builtin "all") := by decide +kernel
theorem bt_abs : bootBuiltins "abs" = some (.builtin "abs") := by decide +kernel
theorem bt_repr : bootBuiltins "repr" = some (.builtin "repr") := by decide +kernel
theorem bt_sorted : bootBuiltins "sorted" = some (.builtin "sorted") := by decide +kernel
theorem bt_int : bootBuiltins "int" = some (.type "int") := by decide +kernel
theorem bt_bool : bootBuiltins "bool" = some (.type "bool") := by decide +kernel
theorem bt_str : bootBuiltins "str" = some (.type "str") := by decide +kernel
theorem bt_tuple : bootBuiltins "tuple" = some (.type "tuple") := by decide +kernel
theorem bt_list : bootBuiltins "list" = some (.type "list") := by decide +kernel
theorem bt_dict : bootBuiltins "dict" = some (.type "dict") := by decide +kernel
/-! ### the promises -/
def sp_is_integer (_ : Gn) : DSp := fun ds st q _ => ∃ d, ds = [d] ∧ Ty st d ∧ q (.bl (isIntD d)) st
def sp_is_within (_ : Gn) : DSp := fun ds st q _ => ∃ d lo hi, ds = [d, .int lo, .int hi] ∧ Ty st d ∧ q (.bl (inR d lo hi)) st
def sp_is_sign (_ : Gn) : DSp := fun ds st q _ => ∃ d, ds = [d] ∧ Ty st d ∧ q (.bl (isSignD d)) st
def sp_has_form (_ : Gn) : DSp := fun ds st q _ => ∃ d, ds = [d] ∧ Ty st d ∧ q (.bl (formD d)) st
def sp_is_tree (_ : Gn) : DSp := fun ds st q _ => ∃ d, ds = [d] ∧ Ty st d ∧ ∀ st', Ext st st' → q (.bl (treeB d)) st'
def sp_check_tree (Γ : Gn) : DSp := fun ds st q ex => ∃ d, ds = [d] ∧ Ty st d ∧ ∀ st', Ext st st' → if treeB d = true then q .non st' else ex ⟨Γ.cNoTree, []⟩ st'
def sp_node_rows (_ : Gn) : DSp := fun ds st q _ => ∃ t : Tr, ds = [t.d] ∧ t.ok ∧ t.size ≤ 300 ∧ ∀ st' p, Ext st st' → st p = none → st' p = some (.lst (rowsL [] t)) → q (.ref p) st'
def sp_rows_of (_ : Gn) : DSp := fun ds st q _ => ∃ a b n bs, ds = [.ref a] ∧ st a = some (.lst (List.replicate n (.ref b))) ∧ st b = some (.lst bs) ∧ 1 ≤ bs.length ∧ bs.length ≤ 5 ∧ n ≤ 3 ∧
  ∀ st' p rows, Ext st st' → st p = none → st' p = some (.lst rows) → rows.length = bs.length ^ n → q (.ref p) st'
def sp_number_rows (_ : Gn) : DSp := fun ds st q _ => ∃ m r : Nat, ds = [.int m, .int r] ∧ 1 ≤ m ∧ m ≤ 5 ∧ r ≤ 3 ∧ ∀ st' p rows, Ext st st' → st p = none → st' p = some (.lst rows) → rows.length = m ^ r → q (.ref p) st'
def sp_is_type (_ : Gn) : DSp := fun ds st q _ => ∃ d, ds = [d] ∧ Ty st d ∧ ∀ st', Ext st st' → q (.bl (isTypeF st d)) st'
def sp_check_type (Γ : Gn) : DSp := fun ds st q ex => ∃ d, ds = [d] ∧ Ty st d ∧ ∀ st', Ext st st' → if isTypeF st d = true then q .non st' else ex ⟨Γ.cNoType, []⟩ st'
/-- a row of numbers looked up -/
def sp_number_by (_ : Gn) : DSp := fun ds st q _ => ∃ (m : Nat) (a p : Addr) (g : D) (x : Str) (kvs : List (Key × D)) (row : List D) (ns : List Int) (r : D), ds = [.tup [.int m, .ref a, g], .str x, .ref p] ∧ m ≤ 5 ∧ st a = some (.dK kvs) ∧ valD kvs (.inr x) = some (.tup row) ∧ st p = some (.lst (nI ns)) ∧
  0 ≤ place m ns ∧ row[(place m ns).toNat]? = some r ∧ q r st
def sp__law_to : Gn → DSp := sp_number_by
/-- S stands at a -/
def SrtAt (st : Stt) (S : Srt) (a : Addr) : Prop := S.Ok ∧ st a = some (.dK S.tbl)
def sp_raw_number (_ : Gn) : DSp := fun ds st q _ => ∃ S a t, ds = [Srt.d S a, Tr.d t] ∧ SrtAt st S a ∧ t.ok ∧ t.size ≤ 300 ∧ ∀ st', Ext st st' → q (.int (num S t)) st'
/-- kept is no type; or it is one, and the tree is none, or one -/
def numCase (Γ : Gn) (f : Srt → Tr → D) : DSp := fun ds st q ex =>
  (∃ k t, ds = [k, t] ∧ Ty st k ∧ isTypeF st k = false ∧ ∀ st', Ext st st' → ex ⟨Γ.cNoType, []⟩ st') ∨
  (∃ S a t, ds = [Srt.d S a, t] ∧ SrtAt st S a ∧ Ty st t ∧ treeB t = false ∧ ∀ st', Ext st st' → ex ⟨Γ.cNoTree, []⟩ st') ∨
  ∃ S a t, ds = [Srt.d S a, Tr.d t] ∧ SrtAt st S a ∧ t.ok ∧ t.size ≤ 300 ∧ t.deep ≤ 40 ∧ ∀ st', Ext st st' → q (f S t) st'
def sp_number_of (Γ : Gn) : DSp := numCase Γ fun S t => .int (num S t)
def sp_is_of (Γ : Gn) : DSp := numCase Γ fun S t => .bl (decide (num S t ∈ S.good))
def Srt.other (S : Srt) : Srt := ⟨S.many, SGs.map fun x => (x, S.row x), ((List.range S.many).map fun i => ((i : Nat) : Int)).filter fun i => decide (i ∉ S.good)⟩
def sp_type_other (Γ : Gn) : DSp := fun ds st q ex =>
  (∃ k, ds = [k] ∧ Ty st k ∧ isTypeF st k = false ∧ ∀ st', Ext st st' → ex ⟨Γ.cNoType, []⟩ st') ∨
  ∃ S a, ds = [Srt.d S a] ∧ SrtAt st S a ∧ ∀ st' p, Ext st st' → st p = none → st' p = some (.dK S.other.tbl) → q (S.other.d p) st'
def sp__law_hand (_ : Gn) : DSp := fun ds st q _ => ∃ ns : List Int, ds = [.scr (nI ns)] ∧ ns.length ≤ 63 ∧ ∀ st' h, Ext st st' → st h = none → HandOk st' h → q (.ref h) st'
def sp__law_draw (_ : Gn) : DSp := fun ds st q _ => ∃ (h : Addr) (n : Int), ds = [.ref h, .int n] ∧ 0 < n ∧ n ≤ 1000 ∧ HandOk st h ∧ ∀ (r : Int) st', 0 ≤ r → r < n → Dr h st st' → q (.int r) st'
def sp__law_any (_ : Gn) : DSp := fun ds st q _ => ∃ (h a : Addr) (xs : List D), ds = [.ref h, .ref a] ∧ a ≠ h ∧ st a = some (.lst xs) ∧ xs ≠ [] ∧ xs.length ≤ 1000 ∧ HandOk st h ∧ ∀ x st', x ∈ xs → Dr h st st' → q x st'
def ranksL : List D := RK.map fun p => .tup [.str p.1, .int p.2]
def sp__law_ranks (_ : Gn) : DSp := fun ds st q _ => ds = [] ∧ ∀ p, st p = none → q (.ref p) (put st p (.lst ranksL))
def sp__law_sort (_ : Gn) : DSp := fun ds st q _ => ∃ h, ds = [.ref h] ∧ HandOk st h ∧ ∀ S a st', Dr h st st' → st a = none → SrtAt st' S a → q (Srt.d S a) st'
/-- a tree that is drawn: at most n deep -/
def sp__law_treeN (n : Nat) : DSp := fun ds st q _ => ∃ (h : Addr) (k : Nat), ds = [.ref h, .int k] ∧ k < n ∧ k ≤ 3 ∧ HandOk st h ∧ ∀ (t : Tr) st', t.ok → t.deep ≤ k + 1 → Dr h st st' → q t.d st'
def sp__law_tree (_ : Gn) : DSp := sp__law_treeN 4
def sp__law_chain (_ : Gn) : DSp := fun ds st q _ => ∃ (h : Addr) (k : Nat), ds = [.ref h, .int k] ∧ 1 ≤ k ∧ k ≤ 41 ∧ HandOk st h ∧ ∀ (t : Tr) st', t.ok → t.deep = k → t.size = k → Dr h st st' → q t.d st'
def sp__law_full (_ : Gn) : DSp := fun ds st q _ => ∃ (h : Addr) (k : Nat), ds = [.ref h, .int k] ∧ 1 ≤ k ∧ k ≤ 9 ∧ HandOk st h ∧ ∀ (t : Tr) st', t.ok → t.deep = k → t.size + 1 = 2 ^ k → Dr h st st' → q t.d st'
def sp__law_numberN (n : Nat) : DSp := fun ds st q _ => ∃ S a t, ds = [Srt.d S a, Tr.d t] ∧ SrtAt st S a ∧ t.ok ∧ t.deep ≤ n ∧ ∀ st', Ext st st' → q (.int (num S t)) st'
def sp__law_number (_ : Gn) : DSp := sp__law_numberN 40
def sp__law_wrong (_ : Gn) : DSp := fun ds st q _ => ∃ h S a, ds = [.ref h, Srt.d S a] ∧ a ≠ h ∧ HandOk st h ∧ SrtAt st S a ∧ ∀ d st', Dr h st st' → (∀ st2, Mov h st' st2 → Ty st2 d ∧ isTypeF st2 d = false) → q d st'
def sp__law_no_tree (_ : Gn) : DSp := fun ds st q _ => ∃ h, ds = [.ref h] ∧ HandOk st h ∧ ∀ d st', Dr h st st' → Ty st' d → treeB d = false → q d st'
def sp__law_flag (_ : Gn) : DSp := fun ds st q _ => ∃ a b, ds = [.bl a, .bl b] ∧ q (.bl (a == b)) st
def sp__law_are_trees_right (_ : Gn) : DSp := fun ds st q _ => ∃ h S a, ds = [.ref h, Srt.d S a] ∧ a ≠ h ∧ HandOk st h ∧ SrtAt st S a ∧ ∀ st', Dr h st st' → q (.bl true) st'
def sp__law_is_other_right (_ : Gn) : DSp := fun ds st q _ => ∃ S a, ds = [Srt.d S a] ∧ SrtAt st S a ∧ ∀ st', Ext st st' → q (.bl true) st'
def sp__law_is_right (_ : Gn) : DSp := fun ds st q _ => ∃ h, ds = [.ref h] ∧ HandOk st h ∧ ∀ st', Dr h st st' → q (.bl true) st'
def sp__law_word_of (_ : Gn) : DSp := fun ds st q _ => ∃ S a d, ds = [Srt.d S a, d] ∧ SrtAt st S a ∧ Ty st d ∧ treeB d = false ∧ ∀ st', Ext st st' → q (.str "tree") st'
def sp_law (_ : Gn) : DSp := fun ds st q _ => ∃ ns : List Int, ds = [.scr (nI ns)] ∧ ns.length ≤ 63 ∧ ∀ st', q (.bl true) st'
end K73
/-! K2: the defs' texts, readings, derivations (written by gen.py). -/
namespace K73
open PySem PySem.Spec L2 DL
def top (i : Nat) : Stmt := PySem.Challenge.pw_firstgap_k73_whole_types_and_numbers_of.main.body.getD i (.Pass ⟨0, 0, 0, 0⟩)

/-! ### is_integer -/
abbrev st_is_integer : Stmt := top 9
abbrev N_is_integer : List Str := ["thing"]
abbrev ps_is_integer : List Str := ["thing"]
theorem sc_is_integer : FnScope N_is_integer ps_is_integer (defScope st_is_integer) := ⟨rfl, rfl, rfl, by decide +kernel, rfl, by decide +kernel, by decide +kernel⟩
def t_is_integer (Γ : Gn) (ex : DXE) : DS := (sRet (dAndV (dCB nIsi (dCons (dVar 0) (dCons (dC (.ty "int")) dNil))) (dNotV (dCB nIsi (dCons (dVar 0) (dCons (dC (.ty "bool")) dNil))))))
theorem d_is_integer {P : Program} {w : World} {Γ : Gn} {base : Heap} {T : List (Addr × Str)} {f : Addr} {cdv : Value} {A : Around} {outer : List PySem.Env} {s : Shared} {H : Hp} {E : XK} {ex : DXE} (F : Fx Γ w) (C : Ct (bodyCx P w Γ.K Γ.mg base N_is_integer "is_integer" (defScope st_is_integer) f cdv A outer s H E) ⟨T, H⟩ false 0 ex) :
    PDSs (bodyCx P w Γ.K Γ.mg base N_is_integer "is_integer" (defScope st_is_integer) f cdv A outer s H E) ⟨T, H⟩ (defBody st_is_integer) (t_is_integer Γ ex) := by
  exact (pdss_one (pds_ret (pd_and (pd_callB cd_isi F.f_isinstance bt_isinstance (pda_cons (pd_nm 0) (pda_cons (pd_bty F.f_int bt_int) pda_nil))) (pd_one (pd_not (pd_callB cd_isi F.f_isinstance bt_isinstance (pda_cons (pd_nm 0) (pda_cons (pd_bty F.f_bool bt_bool) pda_nil))))))))
/-! ### is_within -/
abbrev st_is_within : Stmt := top 10
abbrev N_is_within : List Str := ["thing", "low", "high"]
abbrev ps_is_within : List Str := ["thing", "low", "high"]
theorem sc_is_within : FnScope N_is_within ps_is_within (defScope st_is_within) := ⟨rfl, rfl, rfl, by decide +kernel, rfl, by decide +kernel, by decide +kernel⟩
def t_is_within (Γ : Gn) (ex : DXE) : DS := (sRet (dAndV (dCall (sp_is_integer Γ) ex (dCons (dVar 0) dNil)) (dChain oLe oLe (dVar 1) (dVar 0) (dVar 2))))
theorem d_is_within {P : Program} {w : World} {Γ : Gn} {base : Heap} {T : List (Addr × Str)} {f : Addr} {cdv : Value} {A : Around} {outer : List PySem.Env} {s : Shared} {H : Hp} {E : XK} {ex : DXE} (F : Fx Γ w)  (c_is_integer : CalG P w Γ.K Γ.mg base T false 1 "is_integer" (sp_is_integer Γ)) (C : Ct (bodyCx P w Γ.K Γ.mg base N_is_within "is_within" (defScope st_is_within) f cdv A outer s H E) ⟨T, H⟩ false 1 ex) :
    PDSs (bodyCx P w Γ.K Γ.mg base N_is_within "is_within" (defScope st_is_within) f cdv A outer s H E) ⟨T, H⟩ (defBody st_is_within) (t_is_within Γ ex) := by
  exact (pdss_one (pds_ret (pd_and (pd_call C.toCe c_is_integer (by decide) (fun z => nomatch z) (pda_cons (pd_nm 0) pda_nil)) (pd_one (pd_chain opd_le opd_le (pd_nm 1) (pd_nm 0) (pd_nm 2))))))
/-! ### is_sign -/
abbrev st_is_sign : Stmt := top 11
abbrev N_is_sign : List Str := ["thing"]
abbrev ps_is_sign : List Str := ["thing"]
theorem sc_is_sign : FnScope N_is_sign ps_is_sign (defScope st_is_sign) := ⟨rfl, rfl, rfl, by decide +kernel, rfl, by decide +kernel, by decide +kernel⟩
def t_is_sign (Γ : Gn) (ex : DXE) : DS := (sRet (dAndV (dCB nIsi (dCons (dVar 0) (dCons (dC (.ty "str")) dNil))) (dInW RK (dVar 0))))
theorem d_is_sign {P : Program} {w : World} {Γ : Gn} {base : Heap} {T : List (Addr × Str)} {f : Addr} {cdv : Value} {A : Around} {outer : List PySem.Env} {s : Shared} {H : Hp} {E : XK} {ex : DXE} (F : Fx Γ w) (C : Ct (bodyCx P w Γ.K Γ.mg base N_is_sign "is_sign" (defScope st_is_sign) f cdv A outer s H E) ⟨T, H⟩ false 0 ex) :
    PDSs (bodyCx P w Γ.K Γ.mg base N_is_sign "is_sign" (defScope st_is_sign) f cdv A outer s H E) ⟨T, H⟩ (defBody st_is_sign) (t_is_sign Γ ex) := by
  exact (pdss_one (pds_ret (pd_and (pd_callB cd_isi F.f_isinstance bt_isinstance (pda_cons (pd_nm 0) (pda_cons (pd_bty F.f_str bt_str) pda_nil))) (pd_one (pd_inW F.w_RANKS F.g_RANKS (pd_nm 0))))))
/-! ### has_form -/
abbrev st_has_form : Stmt := top 12
abbrev N_has_form : List Str := ["thing"]
abbrev ps_has_form : List Str := ["thing"]
theorem sc_has_form : FnScope N_has_form ps_has_form (defScope st_has_form) := ⟨rfl, rfl, rfl, by decide +kernel, rfl, by decide +kernel, by decide +kernel⟩
def t_has_form (Γ : Gn) (ex : DXE) : DS := (sRet (dAndV (dCB nIsi (dCons (dVar 0) (dCons (dC (.ty "tuple")) dNil))) (dAndV (dOp oGt (dCB nLen (dCons (dVar 0) dNil)) (dC (.int 0))) (dAndV (dCall (sp_is_sign Γ) ex (dCons (dOp oIx (dVar 0) (dC (.int 0))) dNil)) (dOp (oEqB false) (dCB nLen (dCons (dVar 0) dNil)) (dOp oAdd (dC (.int 1)) (dIxW RK (dOp oIx (dVar 0) (dC (.int 0))))))))))
theorem d_has_form {P : Program} {w : World} {Γ : Gn} {base : Heap} {T : List (Addr × Str)} {f : Addr} {cdv : Value} {A : Around} {outer : List PySem.Env} {s : Shared} {H : Hp} {E : XK} {ex : DXE} (F : Fx Γ w)  (c_is_sign : CalG P w Γ.K Γ.mg base T false 1 "is_sign" (sp_is_sign Γ)) (C : Ct (bodyCx P w Γ.K Γ.mg base N_has_form "has_form" (defScope st_has_form) f cdv A outer s H E) ⟨T, H⟩ false 1 ex) :
    PDSs (bodyCx P w Γ.K Γ.mg base N_has_form "has_form" (defScope st_has_form) f cdv A outer s H E) ⟨T, H⟩ (defBody st_has_form) (t_has_form Γ ex) := by
  exact (pdss_one (pds_ret (pd_and (pd_callB cd_isi F.f_isinstance bt_isinstance (pda_cons (pd_nm 0) (pda_cons (pd_bty F.f_tuple bt_tuple) pda_nil))) (pd_and (pd_cmp opd_gt (pd_callB cd_len F.f_len bt_len (pda_cons (pd_nm 0) pda_nil)) pd_int (nomark _)) (pd_and (pd_call C.toCe c_is_sign (by decide) (fun z => nomatch z) (pda_cons (pd_ix (ixd C.un1) (pd_nm 0) pd_int) pda_nil)) (pd_one (pd_cmp (opd_eq C.un) (pd_callB cd_len F.f_len bt_len (pda_cons (pd_nm 0) pda_nil)) (pd_op opd_add pd_int (pd_ixW F.w_RANKS F.g_RANKS (pd_ix (ixd C.un1) (pd_nm 0) pd_int))) (nomark _))))))))
/-! ### is_tree -/
abbrev st_is_tree : Stmt := top 13
abbrev N_is_tree : List Str := ["thing", "many", "waiting", "here", "depth", "part"]
abbrev ps_is_tree : List Str := ["thing"]
theorem sc_is_tree : FnScope N_is_tree ps_is_tree (defScope st_is_tree) := ⟨rfl, rfl, rfl, by decide +kernel, rfl, by decide +kernel, by decide +kernel⟩
def u_is_tree_1_3 (Γ : Gn) (ex : DXE) : DS := (sDrop (dBM isLst mExtend (dVar 2) (dCons (dLc (iTupD (dSl oSl (dVar 3) (dPart (dC (.int 1))) dNoPart)) (.one 5) tYesD (dTup (dCons (dVar 5) (dCons (dOp oAdd (dVar 4) (dC (.int 1))) dNil))) [5]) dNil)))
def u_is_tree_1_2 (Γ : Gn) (ex : DXE) : DS := (sSeq (sIf (dOr (dB (dOp oGt (dVar 1) (dC (.int 300)))) (dOr (dB (dOp oGt (dVar 4) (dC (.int 40)))) (dNot (dB (dCall (sp_has_form Γ) ex (dCons (dVar 3) dNil)))))) (sRet (dC (.bl false))) sNext) (u_is_tree_1_3 Γ ex))
def u_is_tree_1_1 (Γ : Gn) (ex : DXE) : DS := (sSeq (sAug 1 oIpAdd (dC (.int 1))) (u_is_tree_1_2 Γ ex))
def b_is_tree_1 (Γ : Gn) (ex : DXE) : DS := (sSeq (sAsg (dBM0 isLst mPop (dVar 2)) (gTp 2 (gsCons (gNm 3) (gsCons (gNm 4) gsNil)))) (u_is_tree_1_1 Γ ex))
def u_is_tree_2 (Γ : Gn) (ex : DXE) : DS := (sRet (dC (.bl true)))
def u_is_tree_1 (Γ : Gn) (ex : DXE) : DS := (sSeq (sWhile (dB (dOp oGt (dCB nLen (dCons (dVar 2) dNil)) (dC (.int 0)))) (b_is_tree_1 Γ ex)) (u_is_tree_2 Γ ex))
def t_is_tree (Γ : Gn) (ex : DXE) : DS := (sSeq (sPar 1 2 (dCons (dC (.int 0)) (dCons (dLst (dCons (dTup (dCons (dVar 0) (dCons (dC (.int 1)) dNil))) dNil)) dNil))) (u_is_tree_1 Γ ex))
theorem d_is_tree {P : Program} {w : World} {Γ : Gn} {base : Heap} {T : List (Addr × Str)} {f : Addr} {cdv : Value} {A : Around} {outer : List PySem.Env} {s : Shared} {H : Hp} {E : XK} {ex : DXE} (F : Fx Γ w)  (c_has_form : CalG P w Γ.K Γ.mg base T false 2 "has_form" (sp_has_form Γ)) (C : Ct (bodyCx P w Γ.K Γ.mg base N_is_tree "is_tree" (defScope st_is_tree) f cdv A outer s H E) ⟨T, H⟩ false 2 ex) :
    PDSs (bodyCx P w Γ.K Γ.mg base N_is_tree "is_tree" (defScope st_is_tree) f cdv A outer s H E) ⟨T, H⟩ (defBody st_is_tree) (t_is_tree Γ ex) := by
  exact (pdss_cons (pds_par 1 2 C.calm C.nd (pda_cons pd_int (pda_cons (pd_lst (pda_cons (pd_tup (pda_cons (pd_nm 0) (pda_cons pd_int pda_nil))) pda_nil)) pda_nil))) (pdss_cons (pds_while C.hp (pdt_cmp opd_gt (pd_callB cd_len F.f_len bt_len (pda_cons (pd_nm 2) pda_nil)) pd_int (nomark _)) (pdss_cons (pds_asg (pd_bm0 PySem.F.plainAttrs_list PySem.F.slot_list_pop PySem.F.type_list_pop mtd_pop (pd_nm 2)) (pdg_tup C.calm (pdgs_cons (pdg_nm 3 C.nd) (pdgs_cons (pdg_nm 4 C.nd) pdgs_nil)))) (pdss_cons (pds_aug 1 C.nd ipd_add pd_int) (pdss_cons (pds_if (PDW.pdt (pdw_or (pdt_cmp opd_gt (pd_nm 1) (pd_gint F.i_MOST_NODES) (nomark _)) (pdw_or (pdt_cmp opd_gt (pd_nm 4) (pd_gint F.i_MOST_DEEP) (nomark _)) (pdw_or1 (pdt_not (pdt_val (pd_call C.toCe c_has_form (by decide) (fun z => nomatch z) (pda_cons (pd_nm 3) pda_nil)))))))) (pdss_one (pds_ret pd_bl)) pdss_nil) (pdss_one (pds_expr (pd_bm PySem.F.plainAttrs_list PySem.F.slot_list_extend PySem.F.type_list_extend mtd_extend (pd_nm 2) (pda_cons (pd_lc (ct := (.one 5)) C.calm C.nd (pdi_tup (pd_slice sld (pd_nm 3) (pdo_some pd_int) pdo_none)) (blkOk_by (N := N_is_tree) (sc := defScope st_is_tree) (own := [("part", 5)]) (by decide +kernel)) (by decide) (fun _ _ _ _ _ => pg_name C.nd rfl (Or.inl rfl)) (fun _ _ _ _ _ => ptd_nil) (fun _ _ _ _ _ => (pd_tup (pda_cons (pd_nm 5) (pda_cons (pd_op opd_add (pd_nm 4) pd_int) pda_nil))))) pda_nil)))))))) (pdss_one (pds_ret pd_bl))))
/-! ### check_tree -/
abbrev st_check_tree : Stmt := top 14
abbrev N_check_tree : List Str := ["thing"]
abbrev ps_check_tree : List Str := ["thing"]
theorem sc_check_tree : FnScope N_check_tree ps_check_tree (defScope st_check_tree) := ⟨rfl, rfl, rfl, by decide +kernel, rfl, by decide +kernel, by decide +kernel⟩
def t_check_tree (Γ : Gn) (ex : DXE) : DS := (sIf (dNot (dB (dCall (sp_is_tree Γ) ex (dCons (dVar 0) dNil)))) (sRaise Γ.cNoTree ex) sNext)
theorem d_check_tree {P : Program} {w : World} {Γ : Gn} {base : Heap} {T : List (Addr × Str)} {f : Addr} {cdv : Value} {A : Around} {outer : List PySem.Env} {s : Shared} {H : Hp} {E : XK} {ex : DXE} (F : Fx Γ w)  (c_is_tree : CalG P w Γ.K Γ.mg base T false 3 "is_tree" (sp_is_tree Γ)) (C : Ct (bodyCx P w Γ.K Γ.mg base N_check_tree "check_tree" (defScope st_check_tree) f cdv A outer s H E) ⟨T, H⟩ false 3 ex) :
    PDSs (bodyCx P w Γ.K Γ.mg base N_check_tree "check_tree" (defScope st_check_tree) f cdv A outer s H E) ⟨T, H⟩ (defBody st_check_tree) (t_check_tree Γ ex) := by
  exact (pdss_one (pds_if (pdt_not (pdt_val (pd_call C.toCe c_is_tree (by decide) (fun z => nomatch z) (pda_cons (pd_nm 0) pda_nil)))) (pdss_one (pds_raise C F.x_NoTree)) pdss_nil))
/-! ### node_rows -/
abbrev st_node_rows : Stmt := top 15
abbrev N_node_rows : List Str := ["tree", "found", "waiting", "path", "here", "at", "part"]
abbrev ps_node_rows : List Str := ["tree"]
theorem sc_node_rows : FnScope N_node_rows ps_node_rows (defScope st_node_rows) := ⟨rfl, rfl, rfl, by decide +kernel, rfl, by decide +kernel, by decide +kernel⟩
def u_node_rows_1_2 (Γ : Gn) (ex : DXE) : DS := (sDrop (dBM isLst mExtend (dVar 2) (dCons (dRevL (dLc (iEnD (dSl oSl (dVar 4) (dPart (dC (.int 1))) dNoPart)) (.row [5, 6]) tYesD (dTup (dCons (dOp oAdd (dVar 3) (dTup (dCons (dVar 5) dNil))) (dCons (dVar 6) dNil))) [5, 6])) dNil)))
def u_node_rows_1_1 (Γ : Gn) (ex : DXE) : DS := (sSeq (sDrop (dBM isLst mAppend (dVar 1) (dCons (dTup (dCons (dVar 3) (dCons (dVar 4) dNil))) dNil))) (u_node_rows_1_2 Γ ex))
def b_node_rows_1 (Γ : Gn) (ex : DXE) : DS := (sSeq (sAsg (dBM0 isLst mPop (dVar 2)) (gTp 2 (gsCons (gNm 3) (gsCons (gNm 4) gsNil)))) (u_node_rows_1_1 Γ ex))
def u_node_rows_2 (Γ : Gn) (ex : DXE) : DS := (sRet (dVar 1))
def u_node_rows_1 (Γ : Gn) (ex : DXE) : DS := (sSeq (sWhile (dB (dOp oGt (dCB nLen (dCons (dVar 2) dNil)) (dC (.int 0)))) (b_node_rows_1 Γ ex)) (u_node_rows_2 Γ ex))
def t_node_rows (Γ : Gn) (ex : DXE) : DS := (sSeq (sPar 1 2 (dCons (dLst dNil) (dCons (dLst (dCons (dTup (dCons (dTup dNil) (dCons (dVar 0) dNil))) dNil)) dNil))) (u_node_rows_1 Γ ex))
theorem d_node_rows {P : Program} {w : World} {Γ : Gn} {base : Heap} {T : List (Addr × Str)} {f : Addr} {cdv : Value} {A : Around} {outer : List PySem.Env} {s : Shared} {H : Hp} {E : XK} {ex : DXE} (F : Fx Γ w) (C : Ct (bodyCx P w Γ.K Γ.mg base N_node_rows "node_rows" (defScope st_node_rows) f cdv A outer s H E) ⟨T, H⟩ false 0 ex) :
    PDSs (bodyCx P w Γ.K Γ.mg base N_node_rows "node_rows" (defScope st_node_rows) f cdv A outer s H E) ⟨T, H⟩ (defBody st_node_rows) (t_node_rows Γ ex) := by
  exact (pdss_cons (pds_par 1 2 C.calm C.nd (pda_cons (pd_lst pda_nil) (pda_cons (pd_lst (pda_cons (pd_tup (pda_cons (pd_tup pda_nil) (pda_cons (pd_nm 0) pda_nil))) pda_nil)) pda_nil))) (pdss_cons (pds_while C.hp (pdt_cmp opd_gt (pd_callB cd_len F.f_len bt_len (pda_cons (pd_nm 2) pda_nil)) pd_int (nomark _)) (pdss_cons (pds_asg (pd_bm0 PySem.F.plainAttrs_list PySem.F.slot_list_pop PySem.F.type_list_pop mtd_pop (pd_nm 2)) (pdg_tup C.calm (pdgs_cons (pdg_nm 3 C.nd) (pdgs_cons (pdg_nm 4 C.nd) pdgs_nil)))) (pdss_cons (pds_expr (pd_bm PySem.F.plainAttrs_list PySem.F.slot_list_append PySem.F.type_list_append mtd_append (pd_nm 1) (pda_cons (pd_tup (pda_cons (pd_nm 3) (pda_cons (pd_nm 4) pda_nil))) pda_nil))) (pdss_one (pds_expr (pd_bm PySem.F.plainAttrs_list PySem.F.slot_list_extend PySem.F.type_list_extend mtd_extend (pd_nm 2) (pda_cons (pd_revL (pd_lc (ct := (.row [5, 6])) C.calm C.nd (pdi_enum F.f_enumerate (pd_slice sld (pd_nm 4) (pdo_some pd_int) pdo_none)) (blkOk_by (N := N_node_rows) (sc := defScope st_node_rows) (own := [("at", 5), ("part", 6)]) (by decide +kernel)) (by decide) (fun _ _ _ _ _ => pg_tup C.calm (pgs_cons (pg_name C.nd rfl (Or.inl rfl)) (pgs_cons (pg_name C.nd rfl (Or.inl rfl)) pgs_nil (by rfl)) (by rfl)) (by rfl) (by rfl)) (fun _ _ _ _ _ => ptd_nil) (fun _ _ _ _ _ => (pd_tup (pda_cons (pd_op opd_add (pd_nm 3) (pd_tup (pda_cons (pd_nm 5) pda_nil))) (pda_cons (pd_nm 6) pda_nil)))))) pda_nil))))))) (pdss_one (pds_ret (pd_nm 1)))))
/-! ### rows_of -/
abbrev st_rows_of : Stmt := top 16
abbrev N_rows_of : List Str := ["lots", "found", "lot", "longer", "row", "one"]
abbrev ps_rows_of : List Str := ["lots"]
theorem sc_rows_of : FnScope N_rows_of ps_rows_of (defScope st_rows_of) := ⟨rfl, rfl, rfl, by decide +kernel, rfl, by decide +kernel, by decide +kernel⟩
def b_rows_of_1_1 (Γ : Gn) (ex : DXE) : DS := (sDrop (dBM isLst mExtend (dVar 3) (dCons (dLc (iLstD (dVar 2)) (.one 5) tYesD (dOp oAdd (dVar 4) (dTup (dCons (dVar 5) dNil))) [5]) dNil)))
def u_rows_of_1_2 (Γ : Gn) (ex : DXE) : DS := (sSet 1 (dVar 3))
def u_rows_of_1_1 (Γ : Gn) (ex : DXE) : DS := (sSeq (sFor (iLstD (dVar 1)) (gNm 4) (b_rows_of_1_1 Γ ex)) (u_rows_of_1_2 Γ ex))
def b_rows_of_1 (Γ : Gn) (ex : DXE) : DS := (sSeq (sSet 3 (dLst dNil)) (u_rows_of_1_1 Γ ex))
def u_rows_of_2 (Γ : Gn) (ex : DXE) : DS := (sRet (dVar 1))
def u_rows_of_1 (Γ : Gn) (ex : DXE) : DS := (sSeq (sFor (iLstD (dVar 0)) (gNm 2) (b_rows_of_1 Γ ex)) (u_rows_of_2 Γ ex))
def t_rows_of (Γ : Gn) (ex : DXE) : DS := (sSeq (sSet 1 (dLst (dCons (dTup dNil) dNil))) (u_rows_of_1 Γ ex))
theorem d_rows_of {P : Program} {w : World} {Γ : Gn} {base : Heap} {T : List (Addr × Str)} {f : Addr} {cdv : Value} {A : Around} {outer : List PySem.Env} {s : Shared} {H : Hp} {E : XK} {ex : DXE} (F : Fx Γ w) (C : Ct (bodyCx P w Γ.K Γ.mg base N_rows_of "rows_of" (defScope st_rows_of) f cdv A outer s H E) ⟨T, H⟩ false 0 ex) :
    PDSs (bodyCx P w Γ.K Γ.mg base N_rows_of "rows_of" (defScope st_rows_of) f cdv A outer s H E) ⟨T, H⟩ (defBody st_rows_of) (t_rows_of Γ ex) := by
  exact (pdss_cons (pds_set 1 C.nd (pd_lst (pda_cons (pd_tup pda_nil) pda_nil))) (pdss_cons (pds_for C.hp C.calm (pdi_lst (pd_nm 0)) (pdg_nm 2 C.nd) (pdss_cons (pds_set 3 C.nd (pd_lst pda_nil)) (pdss_cons (pds_for C.hp C.calm (pdi_lst (pd_nm 1)) (pdg_nm 4 C.nd) (pdss_one (pds_expr (pd_bm PySem.F.plainAttrs_list PySem.F.slot_list_extend PySem.F.type_list_extend mtd_extend (pd_nm 3) (pda_cons (pd_lc (ct := (.one 5)) C.calm C.nd (pdi_lst (pd_nm 2)) (blkOk_by (N := N_rows_of) (sc := defScope st_rows_of) (own := [("one", 5)]) (by decide +kernel)) (by decide) (fun _ _ _ _ _ => pg_name C.nd rfl (Or.inl rfl)) (fun _ _ _ _ _ => ptd_nil) (fun _ _ _ _ _ => (pd_op opd_add (pd_nm 4) (pd_tup (pda_cons (pd_nm 5) pda_nil))))) pda_nil))))) (pdss_one (pds_set 1 C.nd (pd_nm 3)))))) (pdss_one (pds_ret (pd_nm 1)))))
/-! ### number_rows -/
abbrev st_number_rows : Stmt := top 19
abbrev N_number_rows : List Str := ["many", "rank"]
abbrev ps_number_rows : List Str := ["many", "rank"]
theorem sc_number_rows : FnScope N_number_rows ps_number_rows (defScope st_number_rows) := ⟨rfl, rfl, rfl, by decide +kernel, rfl, by decide +kernel, by decide +kernel⟩
def t_number_rows (Γ : Gn) (ex : DXE) : DS := (sRet (dCall (sp_rows_of Γ) ex (dCons (dOp oMul (dLst (dCons (dLRg (dVar 0)) dNil)) (dVar 1)) dNil)))
theorem d_number_rows {P : Program} {w : World} {Γ : Gn} {base : Heap} {T : List (Addr × Str)} {f : Addr} {cdv : Value} {A : Around} {outer : List PySem.Env} {s : Shared} {H : Hp} {E : XK} {ex : DXE} (F : Fx Γ w)  (c_rows_of : CalG P w Γ.K Γ.mg base T false 1 "rows_of" (sp_rows_of Γ)) (C : Ct (bodyCx P w Γ.K Γ.mg base N_number_rows "number_rows" (defScope st_number_rows) f cdv A outer s H E) ⟨T, H⟩ false 1 ex) :
    PDSs (bodyCx P w Γ.K Γ.mg base N_number_rows "number_rows" (defScope st_number_rows) f cdv A outer s H E) ⟨T, H⟩ (defBody st_number_rows) (t_number_rows Γ ex) := by
  exact (pdss_one (pds_ret (pd_call C.toCe c_rows_of (by decide) (fun z => nomatch z) (pda_cons (pd_op opd_mul (pd_lst (pda_cons (pd_lrg C.calm F.f_list F.f_range (pd_nm 0)) pda_nil)) (pd_nm 1)) pda_nil))))
/-! ### is_type -/
abbrev st_is_type : Stmt := top 20
abbrev N_is_type : List Str := ["thing", "many", "rules", "good", "sign", "told", "one", "at"]
abbrev ps_is_type : List Str := ["thing"]
theorem sc_is_type : FnScope N_is_type ps_is_type (defScope st_is_type) := ⟨rfl, rfl, rfl, by decide +kernel, rfl, by decide +kernel, by decide +kernel⟩
def u_is_type_3_2 (Γ : Gn) (ex : DXE) : DS := (sIf (dNot (dB (dCB (nAll fun bs => bs.all id) (dCons (dLc (iTupD (dVar 5)) (.one 6) tYesD (dCall (sp_is_within Γ) noX (dCons (dVar 6) (dCons (dC (.int 0)) (dCons (dOp oSub (dVar 1) (dC (.int 1))) dNil)))) [6]) dNil)))) (sRet (dC (.bl false))) sNext)
def u_is_type_3_1 (Γ : Gn) (ex : DXE) : DS := (sSeq (sIf (dOr (dNot (dB (dCB nIsi (dCons (dVar 5) (dCons (dC (.ty "tuple")) dNil))))) (dB (dOp (oEqB true) (dCB nLen (dCons (dVar 5) dNil)) (dCB nLen (dCons (dCall (sp_number_rows Γ) ex (dCons (dVar 1) (dCons (dIxW RK (dVar 4)) dNil))) dNil))))) (sRet (dC (.bl false))) sNext) (u_is_type_3_2 Γ ex))
def b_is_type_3 (Γ : Gn) (ex : DXE) : DS := (sSeq (sSet 5 (dOp oIx (dVar 2) (dVar 4))) (u_is_type_3_1 Γ ex))
def u_is_type_5 (Γ : Gn) (ex : DXE) : DS := (sRet (dCB (nAll fun bs => bs.all id) (dCons (dLc (iRng2D (dCons (dC (.int 1)) (dCons (dCB nLen (dCons (dVar 3) dNil)) dNil))) (.one 7) tYesD (dOp oLt (dOp oIx (dVar 3) (dOp oSub (dVar 7) (dC (.int 1)))) (dOp oIx (dVar 3) (dVar 7))) [7]) dNil)))
def u_is_type_4 (Γ : Gn) (ex : DXE) : DS := (sSeq (sIf (dOr (dNot (dB (dCB nIsi (dCons (dVar 3) (dCons (dC (.ty "tuple")) dNil))))) (dNot (dB (dCB (nAll fun bs => bs.all id) (dCons (dLc (iTupD (dVar 3)) (.one 6) tYesD (dCall (sp_is_within Γ) noX (dCons (dVar 6) (dCons (dC (.int 0)) (dCons (dOp oSub (dVar 1) (dC (.int 1))) dNil)))) [6]) dNil))))) (sRet (dC (.bl false))) sNext) (u_is_type_5 Γ ex))
def u_is_type_3 (Γ : Gn) (ex : DXE) : DS := (sSeq (sFor (iStrD (dC (.str "abcfghst"))) (gNm 4) (b_is_type_3 Γ ex)) (u_is_type_4 Γ ex))
def u_is_type_2 (Γ : Gn) (ex : DXE) : DS := (sSeq (sIf (dOr (dNot (dB (dCB nIsi (dCons (dVar 2) (dCons (dC (.ty "dict")) dNil))))) (dOr (dB (dOp (oEqB true) (dCB nLen (dCons (dVar 2) dNil)) (dCB nLen (dCons (dC (.str "abcfghst")) dNil)))) (dNot (dB (dCB (nAll fun bs => bs.all id) (dCons (dLc (iStrD (dC (.str "abcfghst"))) (.one 4) tYesD (dOp (oIn false) (dVar 4) (dVar 2)) [4]) dNil)))))) (sRet (dC (.bl false))) sNext) (u_is_type_3 Γ ex))
def u_is_type_1 (Γ : Gn) (ex : DXE) : DS := (sSeq (sAsg (dVar 0) (gTp 3 (gsCons (gNm 1) (gsCons (gNm 2) (gsCons (gNm 3) gsNil))))) (u_is_type_2 Γ ex))
def t_is_type (Γ : Gn) (ex : DXE) : DS := (sSeq (sIf (dOr (dNot (dB (dCB nIsi (dCons (dVar 0) (dCons (dC (.ty "tuple")) dNil))))) (dOr (dB (dOp (oEqB true) (dCB nLen (dCons (dVar 0) dNil)) (dC (.int 3)))) (dNot (dB (dCall (sp_is_within Γ) ex (dCons (dOp oIx (dVar 0) (dC (.int 0))) (dCons (dC (.int 1)) (dCons (dC (.int 5)) dNil)))))))) (sRet (dC (.bl false))) sNext) (u_is_type_1 Γ ex))
theorem d_is_type {P : Program} {w : World} {Γ : Gn} {base : Heap} {T : List (Addr × Str)} {f : Addr} {cdv : Value} {A : Around} {outer : List PySem.Env} {s : Shared} {H : Hp} {E : XK} {ex : DXE} (F : Fx Γ w)  (c_is_within : CalG P w Γ.K Γ.mg base T false 2 "is_within" (sp_is_within Γ)) (c_number_rows : CalG P w Γ.K Γ.mg base T false 2 "number_rows" (sp_number_rows Γ)) (C : Ct (bodyCx P w Γ.K Γ.mg base N_is_type "is_type" (defScope st_is_type) f cdv A outer s H E) ⟨T, H⟩ false 2 ex) :
    PDSs (bodyCx P w Γ.K Γ.mg base N_is_type "is_type" (defScope st_is_type) f cdv A outer s H E) ⟨T, H⟩ (defBody st_is_type) (t_is_type Γ ex) := by
  exact (pdss_cons (pds_if (PDW.pdt (pdw_or (pdt_not (pdt_val (pd_callB cd_isi F.f_isinstance bt_isinstance (pda_cons (pd_nm 0) (pda_cons (pd_bty F.f_tuple bt_tuple) pda_nil))))) (pdw_or (pdt_cmp (opd_ne C.un) (pd_callB cd_len F.f_len bt_len (pda_cons (pd_nm 0) pda_nil)) pd_int (nomark _)) (pdw_or1 (pdt_not (pdt_val (pd_call C.toCe c_is_within (by decide) (fun z => nomatch z) (pda_cons (pd_ix (ixd C.un1) (pd_nm 0) pd_int) (pda_cons pd_int (pda_cons (pd_gint F.i_MOST_MANY) pda_nil)))))))))) (pdss_one (pds_ret pd_bl)) pdss_nil) (pdss_cons (pds_asg (pd_nm 0) (pdg_tup C.calm (pdgs_cons (pdg_nm 1 C.nd) (pdgs_cons (pdg_nm 2 C.nd) (pdgs_cons (pdg_nm 3 C.nd) pdgs_nil))))) (pdss_cons (pds_if (PDW.pdt (pdw_or (pdt_not (pdt_val (pd_callB cd_isi F.f_isinstance bt_isinstance (pda_cons (pd_nm 2) (pda_cons (pd_bty F.f_dict bt_dict) pda_nil))))) (pdw_or (pdt_cmp (opd_ne C.un) (pd_callB cd_len F.f_len bt_len (pda_cons (pd_nm 2) pda_nil)) (pd_callB cd_len F.f_len bt_len (pda_cons (pd_gstr F.s_SIGNS) pda_nil)) (nomark _)) (pdw_or1 (pdt_not (pdt_val (pd_callB (cd_all C.calm) F.f_all bt_all (pda_cons (pd_lc (ct := (.one 4)) C.calm C.nd (pdi_str (pd_gstr F.s_SIGNS)) (blkOk_by (N := N_is_type) (sc := defScope st_is_type) (own := [("sign", 4)]) (by decide +kernel)) (by decide) (fun _ _ _ _ _ => pg_name C.nd rfl (Or.inl rfl)) (fun _ _ _ _ _ => ptd_nil) (fun _ _ _ _ _ => (pd_cmp (opd_in C.un1) (pd_nm 4) (pd_nm 2) (by with_unfolding_all rfl)))) pda_nil)))))))) (pdss_one (pds_ret pd_bl)) pdss_nil) (pdss_cons (pds_for C.hp C.calm (pdi_str (pd_gstr F.s_SIGNS)) (pdg_nm 4 C.nd) (pdss_cons (pds_set 5 C.nd (pd_ix (ixd C.un1) (pd_nm 2) (pd_nm 4))) (pdss_cons (pds_if (PDW.pdt (pdw_or (pdt_not (pdt_val (pd_callB cd_isi F.f_isinstance bt_isinstance (pda_cons (pd_nm 5) (pda_cons (pd_bty F.f_tuple bt_tuple) pda_nil))))) (pdw_or1 (pdt_cmp (opd_ne C.un) (pd_callB cd_len F.f_len bt_len (pda_cons (pd_nm 5) pda_nil)) (pd_callB cd_len F.f_len bt_len (pda_cons (pd_call C.toCe c_number_rows (by decide) (fun z => nomatch z) (pda_cons (pd_nm 1) (pda_cons (pd_ixW F.w_RANKS F.g_RANKS (pd_nm 4)) pda_nil))) pda_nil)) (nomark _))))) (pdss_one (pds_ret pd_bl)) pdss_nil) (pdss_one (pds_if (pdt_not (pdt_val (pd_callB (cd_all C.calm) F.f_all bt_all (pda_cons (pd_lc (ct := (.one 6)) C.calm C.nd (pdi_tup (pd_nm 5)) (blkOk_by (N := N_is_type) (sc := defScope st_is_type) (own := [("one", 6)]) (by decide +kernel)) (by decide) (fun _ _ _ _ _ => pg_name C.nd rfl (Or.inl rfl)) (fun _ _ _ _ _ => ptd_nil) (fun _ _ _ _ _ => (pd_call (C.toCe.blk _ _ _ _ _) c_is_within (by decide) (fun z => nomatch z) (pda_cons (pd_nm 6) (pda_cons pd_int (pda_cons (pd_op opd_sub (pd_nm 1) pd_int) pda_nil)))))) pda_nil)))) (pdss_one (pds_ret pd_bl)) pdss_nil))))) (pdss_cons (pds_if (PDW.pdt (pdw_or (pdt_not (pdt_val (pd_callB cd_isi F.f_isinstance bt_isinstance (pda_cons (pd_nm 3) (pda_cons (pd_bty F.f_tuple bt_tuple) pda_nil))))) (pdw_or1 (pdt_not (pdt_val (pd_callB (cd_all C.calm) F.f_all bt_all (pda_cons (pd_lc (ct := (.one 6)) C.calm C.nd (pdi_tup (pd_nm 3)) (blkOk_by (N := N_is_type) (sc := defScope st_is_type) (own := [("one", 6)]) (by decide +kernel)) (by decide) (fun _ _ _ _ _ => pg_name C.nd rfl (Or.inl rfl)) (fun _ _ _ _ _ => ptd_nil) (fun _ _ _ _ _ => (pd_call (C.toCe.blk _ _ _ _ _) c_is_within (by decide) (fun z => nomatch z) (pda_cons (pd_nm 6) (pda_cons pd_int (pda_cons (pd_op opd_sub (pd_nm 1) pd_int) pda_nil)))))) pda_nil))))))) (pdss_one (pds_ret pd_bl)) pdss_nil) (pdss_one (pds_ret (pd_callB (cd_all C.calm) F.f_all bt_all (pda_cons (pd_lc (ct := (.one 7)) C.calm C.nd (pdi_rng2 F.f_range (pda_cons pd_int (pda_cons (pd_callB cd_len F.f_len bt_len (pda_cons (pd_nm 3) pda_nil)) pda_nil))) (blkOk_by (N := N_is_type) (sc := defScope st_is_type) (own := [("at", 7)]) (by decide +kernel)) (by decide) (fun _ _ _ _ _ => pg_name C.nd rfl (Or.inl rfl)) (fun _ _ _ _ _ => ptd_nil) (fun _ _ _ _ _ => (pd_cmp opd_lt (pd_ix (ixd C.un1) (pd_nm 3) (pd_op opd_sub (pd_nm 7) pd_int)) (pd_ix (ixd C.un1) (pd_nm 3) (pd_nm 7)) (nomark _)))) pda_nil)))))))))
/-! ### check_type -/
abbrev st_check_type : Stmt := top 21
abbrev N_check_type : List Str := ["thing"]
abbrev ps_check_type : List Str := ["thing"]
theorem sc_check_type : FnScope N_check_type ps_check_type (defScope st_check_type) := ⟨rfl, rfl, rfl, by decide +kernel, rfl, by decide +kernel, by decide +kernel⟩
def t_check_type (Γ : Gn) (ex : DXE) : DS := (sIf (dNot (dB (dCall (sp_is_type Γ) ex (dCons (dVar 0) dNil)))) (sRaise Γ.cNoType ex) sNext)
theorem d_check_type {P : Program} {w : World} {Γ : Gn} {base : Heap} {T : List (Addr × Str)} {f : Addr} {cdv : Value} {A : Around} {outer : List PySem.Env} {s : Shared} {H : Hp} {E : XK} {ex : DXE} (F : Fx Γ w)  (c_is_type : CalG P w Γ.K Γ.mg base T false 3 "is_type" (sp_is_type Γ)) (C : Ct (bodyCx P w Γ.K Γ.mg base N_check_type "check_type" (defScope st_check_type) f cdv A outer s H E) ⟨T, H⟩ false 3 ex) :
    PDSs (bodyCx P w Γ.K Γ.mg base N_check_type "check_type" (defScope st_check_type) f cdv A outer s H E) ⟨T, H⟩ (defBody st_check_type) (t_check_type Γ ex) := by
  exact (pdss_one (pds_if (pdt_not (pdt_val (pd_call C.toCe c_is_type (by decide) (fun z => nomatch z) (pda_cons (pd_nm 0) pda_nil)))) (pdss_one (pds_raise C F.x_NoType)) pdss_nil))
/-! ### number_by -/
abbrev st_number_by : Stmt := top 22
abbrev N_number_by : List Str := ["kept", "sign", "parts", "place", "part"]
abbrev ps_number_by : List Str := ["kept", "sign", "parts"]
theorem sc_number_by : FnScope N_number_by ps_number_by (defScope st_number_by) := ⟨rfl, rfl, rfl, by decide +kernel, rfl, by decide +kernel, by decide +kernel⟩
def b_number_by_1 (Γ : Gn) (ex : DXE) : DS := (sSet 3 (dOp oAdd (dOp oMul (dVar 3) (dOp oIx (dVar 0) (dC (.int 0)))) (dVar 4)))
def u_number_by_2 (Γ : Gn) (ex : DXE) : DS := (sRet (dOp oIx (dOp oIx (dOp oIx (dVar 0) (dC (.int 1))) (dVar 1)) (dVar 3)))
def u_number_by_1 (Γ : Gn) (ex : DXE) : DS := (sSeq (sFor (iLstD (dVar 2)) (gNm 4) (b_number_by_1 Γ ex)) (u_number_by_2 Γ ex))
def t_number_by (Γ : Gn) (ex : DXE) : DS := (sSeq (sSet 3 (dC (.int 0))) (u_number_by_1 Γ ex))
theorem d_number_by {P : Program} {w : World} {Γ : Gn} {base : Heap} {T : List (Addr × Str)} {f : Addr} {cdv : Value} {A : Around} {outer : List PySem.Env} {s : Shared} {H : Hp} {E : XK} {ex : DXE} (F : Fx Γ w) (C : Ct (bodyCx P w Γ.K Γ.mg base N_number_by "number_by" (defScope st_number_by) f cdv A outer s H E) ⟨T, H⟩ false 0 ex) :
    PDSs (bodyCx P w Γ.K Γ.mg base N_number_by "number_by" (defScope st_number_by) f cdv A outer s H E) ⟨T, H⟩ (defBody st_number_by) (t_number_by Γ ex) := by
  exact (pdss_cons (pds_set 3 C.nd pd_int) (pdss_cons (pds_for C.hp C.calm (pdi_lst (pd_nm 2)) (pdg_nm 4 C.nd) (pdss_one (pds_set 3 C.nd (pd_op opd_add (pd_op opd_mul (pd_nm 3) (pd_ix (ixd C.un1) (pd_nm 0) pd_int)) (pd_nm 4))))) (pdss_one (pds_ret (pd_ix (ixd C.un1) (pd_ix (ixd C.un1) (pd_ix (ixd C.un1) (pd_nm 0) pd_int) (pd_nm 1)) (pd_nm 3))))))
/-! ### raw_number -/
abbrev st_raw_number : Stmt := top 23
abbrev N_raw_number : List Str := ["kept", "tree", "found", "path", "node", "at"]
abbrev ps_raw_number : List Str := ["kept", "tree"]
theorem sc_raw_number : FnScope N_raw_number ps_raw_number (defScope st_raw_number) := ⟨rfl, rfl, rfl, by decide +kernel, rfl, by decide +kernel, by decide +kernel⟩
def b_raw_number_1 (Γ : Gn) (ex : DXE) : DS := (sAsg (dCall (sp_number_by Γ) ex (dCons (dVar 0) (dCons (dOp oIx (dVar 4) (dC (.int 0))) (dCons (dLc (iRng1D (dCons (dOp oSub (dCB nLen (dCons (dVar 4) dNil)) (dC (.int 1))) dNil)) (.one 5) tYesD (dOp oIx (dVar 2) (dOp oAdd (dVar 3) (dTup (dCons (dVar 5) dNil)))) [5]) dNil)))) (gSub (dVar 2) (dVar 3) oSet))
def u_raw_number_2 (Γ : Gn) (ex : DXE) : DS := (sRet (dOp oIx (dVar 2) (dTup dNil)))
def u_raw_number_1 (Γ : Gn) (ex : DXE) : DS := (sSeq (sFor (iLstD (dRevL (dCall (sp_node_rows Γ) ex (dCons (dVar 1) dNil)))) (gTp 2 (gsCons (gNm 3) (gsCons (gNm 4) gsNil))) (b_raw_number_1 Γ ex)) (u_raw_number_2 Γ ex))
def t_raw_number (Γ : Gn) (ex : DXE) : DS := (sSeq (sSet 2 dNewT) (u_raw_number_1 Γ ex))
theorem d_raw_number {P : Program} {w : World} {Γ : Gn} {base : Heap} {T : List (Addr × Str)} {f : Addr} {cdv : Value} {A : Around} {outer : List PySem.Env} {s : Shared} {H : Hp} {E : XK} {ex : DXE} (F : Fx Γ w)  (c_node_rows : CalG P w Γ.K Γ.mg base T false 1 "node_rows" (sp_node_rows Γ)) (c_number_by : CalG P w Γ.K Γ.mg base T false 1 "number_by" (sp_number_by Γ)) (C : Ct (bodyCx P w Γ.K Γ.mg base N_raw_number "raw_number" (defScope st_raw_number) f cdv A outer s H E) ⟨T, H⟩ false 1 ex) :
    PDSs (bodyCx P w Γ.K Γ.mg base N_raw_number "raw_number" (defScope st_raw_number) f cdv A outer s H E) ⟨T, H⟩ (defBody st_raw_number) (t_raw_number Γ ex) := by
  exact (pdss_cons (pds_set 2 C.nd pd_newT) (pdss_cons (pds_for C.hp C.calm (pdi_lst (pd_revL (pd_call C.toCe c_node_rows (by decide) (fun z => nomatch z) (pda_cons (pd_nm 1) pda_nil)))) (pdg_tup C.calm (pdgs_cons (pdg_nm 3 C.nd) (pdgs_cons (pdg_nm 4 C.nd) pdgs_nil))) (pdss_one (pds_asg (pd_call C.toCe c_number_by (by decide) (fun z => nomatch z) (pda_cons (pd_nm 0) (pda_cons (pd_ix (ixd C.un1) (pd_nm 4) pd_int) (pda_cons (pd_lc (ct := (.one 5)) C.calm C.nd (pdi_rng1 F.f_range (pda_cons (pd_op opd_sub (pd_callB cd_len F.f_len bt_len (pda_cons (pd_nm 4) pda_nil)) pd_int) pda_nil)) (blkOk_by (N := N_raw_number) (sc := defScope st_raw_number) (own := [("at", 5)]) (by decide +kernel)) (by decide) (fun _ _ _ _ _ => pg_name C.nd rfl (Or.inl rfl)) (fun _ _ _ _ _ => ptd_nil) (fun _ _ _ _ _ => (pd_ix (ixd C.un1) (pd_nm 2) (pd_op opd_add (pd_nm 3) (pd_tup (pda_cons (pd_nm 5) pda_nil)))))) pda_nil)))) (pdg_sub (pd_nm 2) (pd_nm 3) (setd C.un1))))) (pdss_one (pds_ret (pd_ix (ixd C.un1) (pd_nm 2) (pd_tup pda_nil))))))
/-! ### number_of -/
abbrev st_number_of : Stmt := top 24
abbrev N_number_of : List Str := ["kept", "tree"]
abbrev ps_number_of : List Str := ["kept", "tree"]
theorem sc_number_of : FnScope N_number_of ps_number_of (defScope st_number_of) := ⟨rfl, rfl, rfl, by decide +kernel, rfl, by decide +kernel, by decide +kernel⟩
def u_number_of_2 (Γ : Gn) (ex : DXE) : DS := (sRet (dCall (sp_raw_number Γ) ex (dCons (dVar 0) (dCons (dVar 1) dNil))))
def u_number_of_1 (Γ : Gn) (ex : DXE) : DS := (sSeq (sDrop (dCall (sp_check_tree Γ) ex (dCons (dVar 1) dNil))) (u_number_of_2 Γ ex))
def t_number_of (Γ : Gn) (ex : DXE) : DS := (sSeq (sDrop (dCall (sp_check_type Γ) ex (dCons (dVar 0) dNil))) (u_number_of_1 Γ ex))
theorem d_number_of {P : Program} {w : World} {Γ : Gn} {base : Heap} {T : List (Addr × Str)} {f : Addr} {cdv : Value} {A : Around} {outer : List PySem.Env} {s : Shared} {H : Hp} {E : XK} {ex : DXE} (F : Fx Γ w)  (c_check_type : CalG P w Γ.K Γ.mg base T false 4 "check_type" (sp_check_type Γ)) (c_check_tree : CalG P w Γ.K Γ.mg base T false 4 "check_tree" (sp_check_tree Γ)) (c_raw_number : CalG P w Γ.K Γ.mg base T false 2 "raw_number" (sp_raw_number Γ)) (C : Ct (bodyCx P w Γ.K Γ.mg base N_number_of "number_of" (defScope st_number_of) f cdv A outer s H E) ⟨T, H⟩ false 4 ex) :
    PDSs (bodyCx P w Γ.K Γ.mg base N_number_of "number_of" (defScope st_number_of) f cdv A outer s H E) ⟨T, H⟩ (defBody st_number_of) (t_number_of Γ ex) := by
  exact (pdss_cons (pds_expr (pd_call C.toCe c_check_type (by decide) (fun z => nomatch z) (pda_cons (pd_nm 0) pda_nil))) (pdss_cons (pds_expr (pd_call C.toCe c_check_tree (by decide) (fun z => nomatch z) (pda_cons (pd_nm 1) pda_nil))) (pdss_one (pds_ret (pd_call C.toCe c_raw_number (by decide) (fun z => nomatch z) (pda_cons (pd_nm 0) (pda_cons (pd_nm 1) pda_nil)))))))
/-! ### is_of -/
abbrev st_is_of : Stmt := top 25
abbrev N_is_of : List Str := ["kept", "tree"]
abbrev ps_is_of : List Str := ["kept", "tree"]
theorem sc_is_of : FnScope N_is_of ps_is_of (defScope st_is_of) := ⟨rfl, rfl, rfl, by decide +kernel, rfl, by decide +kernel, by decide +kernel⟩
def t_is_of (Γ : Gn) (ex : DXE) : DS := (sRet (dOp (oIn false) (dCall (sp_number_of Γ) ex (dCons (dVar 0) (dCons (dVar 1) dNil))) (dOp oIx (dVar 0) (dC (.int 2)))))
theorem d_is_of {P : Program} {w : World} {Γ : Gn} {base : Heap} {T : List (Addr × Str)} {f : Addr} {cdv : Value} {A : Around} {outer : List PySem.Env} {s : Shared} {H : Hp} {E : XK} {ex : DXE} (F : Fx Γ w)  (c_number_of : CalG P w Γ.K Γ.mg base T false 5 "number_of" (sp_number_of Γ)) (C : Ct (bodyCx P w Γ.K Γ.mg base N_is_of "is_of" (defScope st_is_of) f cdv A outer s H E) ⟨T, H⟩ false 5 ex) :
    PDSs (bodyCx P w Γ.K Γ.mg base N_is_of "is_of" (defScope st_is_of) f cdv A outer s H E) ⟨T, H⟩ (defBody st_is_of) (t_is_of Γ ex) := by
  exact (pdss_one (pds_ret (pd_cmp (opd_in C.un1) (pd_call C.toCe c_number_of (by decide) (fun z => nomatch z) (pda_cons (pd_nm 0) (pda_cons (pd_nm 1) pda_nil))) (pd_ix (ixd C.un1) (pd_nm 0) pd_int) (by with_unfolding_all rfl))))
/-! ### type_other -/
abbrev st_type_other : Stmt := top 26
abbrev N_type_other : List Str := ["kept", "sign", "rules", "one"]
abbrev ps_type_other : List Str := ["kept"]
theorem sc_type_other : FnScope N_type_other ps_type_other (defScope st_type_other) := ⟨rfl, rfl, rfl, by decide +kernel, rfl, by decide +kernel, by decide +kernel⟩
def u_type_other_2 (Γ : Gn) (ex : DXE) : DS := (sRet (dTup (dCons (dOp oIx (dVar 0) (dC (.int 0))) (dCons (dVar 2) (dCons (dCB nTuple (dCons (dLc (iRng1D (dCons (dOp oIx (dVar 0) (dC (.int 0))) dNil)) (.one 3) (dB (dOp (oIn true) (dVar 3) (dOp oIx (dVar 0) (dC (.int 2))))) (dVar 3) [3]) dNil)) dNil)))))
def u_type_other_1 (Γ : Gn) (ex : DXE) : DS := (sSeq (sSet 2 (dCB nDict (dCons (dLc (iStrD (dC (.str "abcfghst"))) (.one 1) tYesD (dTup (dCons (dVar 1) (dCons (dOp oIx (dOp oIx (dVar 0) (dC (.int 1))) (dVar 1)) dNil))) [1]) dNil))) (u_type_other_2 Γ ex))
def t_type_other (Γ : Gn) (ex : DXE) : DS := (sSeq (sDrop (dCall (sp_check_type Γ) ex (dCons (dVar 0) dNil))) (u_type_other_1 Γ ex))
theorem d_type_other {P : Program} {w : World} {Γ : Gn} {base : Heap} {T : List (Addr × Str)} {f : Addr} {cdv : Value} {A : Around} {outer : List PySem.Env} {s : Shared} {H : Hp} {E : XK} {ex : DXE} (F : Fx Γ w)  (c_check_type : CalG P w Γ.K Γ.mg base T false 4 "check_type" (sp_check_type Γ)) (C : Ct (bodyCx P w Γ.K Γ.mg base N_type_other "type_other" (defScope st_type_other) f cdv A outer s H E) ⟨T, H⟩ false 4 ex) :
    PDSs (bodyCx P w Γ.K Γ.mg base N_type_other "type_other" (defScope st_type_other) f cdv A outer s H E) ⟨T, H⟩ (defBody st_type_other) (t_type_other Γ ex) := by
  exact (pdss_cons (pds_expr (pd_call C.toCe c_check_type (by decide) (fun z => nomatch z) (pda_cons (pd_nm 0) pda_nil))) (pdss_cons (pds_set 2 C.nd (pd_callTy (cd_dict C.calm) F.f_dict bt_dict (pda_cons (pd_lc (ct := (.one 1)) C.calm C.nd (pdi_str (pd_gstr F.s_SIGNS)) (blkOk_by (N := N_type_other) (sc := defScope st_type_other) (own := [("sign", 1)]) (by decide +kernel)) (by decide) (fun _ _ _ _ _ => pg_name C.nd rfl (Or.inl rfl)) (fun _ _ _ _ _ => ptd_nil) (fun _ _ _ _ _ => (pd_tup (pda_cons (pd_nm 1) (pda_cons (pd_ix (ixd C.un1) (pd_ix (ixd C.un1) (pd_nm 0) pd_int) (pd_nm 1)) pda_nil))))) pda_nil))) (pdss_one (pds_ret (pd_tup (pda_cons (pd_ix (ixd C.un1) (pd_nm 0) pd_int) (pda_cons (pd_nm 2) (pda_cons (pd_callTy cd_tuple F.f_tuple bt_tuple (pda_cons (pd_lc (ct := (.one 3)) C.calm C.nd (pdi_rng1 F.f_range (pda_cons (pd_ix (ixd C.un1) (pd_nm 0) pd_int) pda_nil)) (blkOk_by (N := N_type_other) (sc := defScope st_type_other) (own := [("one", 3)]) (by decide +kernel)) (by decide) (fun _ _ _ _ _ => pg_name C.nd rfl (Or.inl rfl)) (fun _ _ _ _ _ => ptd_one (pdt_cmp (opd_notIn C.un1) (pd_nm 3) (pd_ix (ixd C.un1) (pd_nm 0) pd_int) (by with_unfolding_all rfl))) (fun _ _ _ _ _ => (pd_nm 3))) pda_nil)) pda_nil))))))))
/-! ### _law_hand -/
abbrev st__law_hand : Stmt := top 28
abbrev N__law_hand : List Str := ["script", "cell", "cells"]
abbrev ps__law_hand : List Str := ["script"]
theorem sc__law_hand : FnScope N__law_hand ps__law_hand (defScope st__law_hand) := ⟨rfl, rfl, rfl, by decide +kernel, rfl, by decide +kernel, by decide +kernel⟩
def u__law_hand_1 (Γ : Gn) (ex : DXE) : DS := (sRet (dLst (dCons (dVar 2) (dCons (dC (.int 0)) (dCons (dC (.int 0)) (dCons (dOp oAdd (dC (.int 7517)) (dOp oMul (dC (.int 9)) (dCB nLen (dCons (dVar 2) dNil)))) (dCons (dC (.int 0)) dNil)))))))
def t__law_hand (Γ : Gn) (ex : DXE) : DS := (sSeq (sSet 2 (dLc (iLstD (dSl oSl (dVar 0) dNoPart (dPart (dC (.int 63))))) (.one 1) tYesD (dOp oMod (dCB nInt (dCons (dCB nAbs (dCons (dCB nInt (dCons (dVar 1) dNil)) dNil)) dNil)) (dOp oPow (dC (.int 10)) (dC (.int 36)))) [1])) (u__law_hand_1 Γ ex))
theorem d__law_hand {P : Program} {w : World} {Γ : Gn} {base : Heap} {T : List (Addr × Str)} {f : Addr} {cdv : Value} {A : Around} {outer : List PySem.Env} {s : Shared} {H : Hp} {E : XK} {ex : DXE} (F : Fx Γ w) (C : Ct (bodyCx P w Γ.K Γ.mg base N__law_hand "_law_hand" (defScope st__law_hand) f cdv A outer s H E) ⟨T, H⟩ false 0 ex) :
    PDSs (bodyCx P w Γ.K Γ.mg base N__law_hand "_law_hand" (defScope st__law_hand) f cdv A outer s H E) ⟨T, H⟩ (defBody st__law_hand) (t__law_hand Γ ex) := by
  exact (pdss_cons (pds_lc (ct := (.one 1)) 2 C.calm C.nd rfl rfl (sw_true rfl rfl rfl (by decide +kernel)) (pdi_lst (pd_slice sld (pd_nm 0) pdo_none (pdo_some pd_int))) (blkOk_by (N := N__law_hand) (sc := defScope st__law_hand) (own := [("cell", 1)]) (by decide +kernel)) (by decide) (fun _ _ _ _ _ => pg_name C.nd rfl (Or.inl rfl)) (fun _ _ _ _ _ => ptd_nil) (fun _ _ _ _ _ => (pd_op opd_mod (pd_callTy cd_int F.f_int bt_int (pda_cons (pd_callB cd_abs F.f_abs bt_abs (pda_cons (pd_callTy cd_int F.f_int bt_int (pda_cons (pd_nm 1) pda_nil)) pda_nil)) pda_nil)) (pd_op opd_pow pd_int pd_int)))) (pdss_one (pds_ret (pd_lst (pda_cons (pd_nm 2) (pda_cons pd_int (pda_cons pd_int (pda_cons (pd_op opd_add pd_int (pd_op opd_mul pd_int (pd_callB cd_len F.f_len bt_len (pda_cons (pd_nm 2) pda_nil)))) (pda_cons pd_int pda_nil)))))))))
/-! ### _law_draw -/
abbrev st__law_draw : Stmt := top 29
abbrev N__law_draw : List Str := ["hand", "many", "cell", "digit", "number"]
abbrev ps__law_draw : List Str := ["hand", "many"]
theorem sc__law_draw : FnScope N__law_draw ps__law_draw (defScope st__law_draw) := ⟨rfl, rfl, rfl, by decide +kernel, rfl, by decide +kernel, by decide +kernel⟩
def u__law_draw_6 (Γ : Gn) (ex : DXE) : DS := (sRet (dOp oMod (dCB nInt (dCons (dOp oFdiv (dVar 4) (dC (.int 16))) dNil)) (dVar 1)))
def u__law_draw_5 (Γ : Gn) (ex : DXE) : DS := (sSeq (sSet 4 (dOp oMod (dCB nInt (dCons (dOp oMul (dVar 4) (dOp oAdd (dOp oFdiv (dVar 4) (dC (.int 2003))) (dC (.int 40014)))) dNil)) (dC (.int 2147483563)))) (u__law_draw_6 Γ ex))
def u__law_draw_4 (Γ : Gn) (ex : DXE) : DS := (sSeq (sSet 4 (dOp oMod (dCB nInt (dCons (dOp oMul (dVar 4) (dOp oAdd (dOp oFdiv (dVar 4) (dC (.int 1009))) (dC (.int 69621)))) dNil)) (dC (.int 2147483647)))) (u__law_draw_5 Γ ex))
def u__law_draw_3 (Γ : Gn) (ex : DXE) : DS := (sSeq (sSet 4 (dOp oMod (dCB nInt (dCons (dOp oMul (dCB nInt (dCons (dOp oAdd (dOp oIx (dVar 0) (dC (.int 3))) (dOp oMul (dC (.int 7919)) (dOp oIx (dVar 0) (dC (.int 4))))) dNil)) (dC (.int 40692))) dNil)) (dC (.int 2147483647)))) (u__law_draw_4 Γ ex))
def u__law_draw_2 (Γ : Gn) (ex : DXE) : DS := (sSeq (sAsg (dOp oAdd (dOp oIx (dVar 0) (dC (.int 4))) (dC (.int 1))) (gSub (dVar 0) (dC (.int 4)) oSet)) (u__law_draw_3 Γ ex))
def u__law_draw_1 (Γ : Gn) (ex : DXE) : DS := (sSeq (sIf (dB (dOp oGt (dOp oIx (dVar 0) (dC (.int 2))) (dC (.int 0)))) (sSeq (sSet 3 (dOp oMod (dCB nInt (dCons (dOp oIx (dVar 0) (dC (.int 2))) dNil)) (dVar 1))) (sSeq (sAsg (dOp oFdiv (dOp oIx (dVar 0) (dC (.int 2))) (dVar 1)) (gSub (dVar 0) (dC (.int 2)) oSet)) (sRet (dVar 3)))) sNext) (u__law_draw_2 Γ ex))
def t__law_draw (Γ : Gn) (ex : DXE) : DS := (sSeq (sIf (dAnd (dB (dOp (oEqB false) (dOp oIx (dVar 0) (dC (.int 2))) (dC (.int 0)))) (dB (dOp oLt (dOp oIx (dVar 0) (dC (.int 1))) (dCB nLen (dCons (dOp oIx (dVar 0) (dC (.int 0))) dNil))))) (sSeq (sSet 2 (dOp oIx (dOp oIx (dVar 0) (dC (.int 0))) (dOp oIx (dVar 0) (dC (.int 1))))) (sSeq (sAsg (dOp oAdd (dOp oIx (dVar 0) (dC (.int 1))) (dC (.int 1))) (gSub (dVar 0) (dC (.int 1)) oSet)) (sSeq (sAsg (dOp oMod (dCB nInt (dCons (dOp oAdd (dOp oAdd (dOp oMul (dOp oIx (dVar 0) (dC (.int 3))) (dC (.int 69621))) (dOp oMul (dVar 2) (dC (.int 48271)))) (dC (.int 53))) dNil)) (dC (.int 2147483629))) (gSub (dVar 0) (dC (.int 3)) oSet)) (sIf (dB (dOp oGe (dVar 2) (dOp oPow (dC (.int 10)) (dC (.int 18))))) (sAsg (dVar 2) (gSub (dVar 0) (dC (.int 2)) oSet)) sNext)))) sNext) (u__law_draw_1 Γ ex))
theorem d__law_draw {P : Program} {w : World} {Γ : Gn} {base : Heap} {T : List (Addr × Str)} {f : Addr} {cdv : Value} {A : Around} {outer : List PySem.Env} {s : Shared} {H : Hp} {E : XK} {ex : DXE} (F : Fx Γ w) (C : Ct (bodyCx P w Γ.K Γ.mg base N__law_draw "_law_draw" (defScope st__law_draw) f cdv A outer s H E) ⟨T, H⟩ false 0 ex) :
    PDSs (bodyCx P w Γ.K Γ.mg base N__law_draw "_law_draw" (defScope st__law_draw) f cdv A outer s H E) ⟨T, H⟩ (defBody st__law_draw) (t__law_draw Γ ex) := by
  exact (pdss_cons (pds_if (PDW.pdt (pdw_and (pdt_cmp (opd_eq C.un) (pd_ix (ixd C.un1) (pd_nm 0) pd_int) pd_int (nomark _)) (pdw_and1 (pdt_cmp opd_lt (pd_ix (ixd C.un1) (pd_nm 0) pd_int) (pd_callB cd_len F.f_len bt_len (pda_cons (pd_ix (ixd C.un1) (pd_nm 0) pd_int) pda_nil)) (nomark _))))) (pdss_cons (pds_set 2 C.nd (pd_ix (ixd C.un1) (pd_ix (ixd C.un1) (pd_nm 0) pd_int) (pd_ix (ixd C.un1) (pd_nm 0) pd_int))) (pdss_cons (pds_asg (pd_op opd_add (pd_ix (ixd C.un1) (pd_nm 0) pd_int) pd_int) (pdg_sub (pd_nm 0) pd_int (setd C.un1))) (pdss_cons (pds_asg (pd_op opd_mod (pd_callTy cd_int F.f_int bt_int (pda_cons (pd_op opd_add (pd_op opd_add (pd_op opd_mul (pd_ix (ixd C.un1) (pd_nm 0) pd_int) pd_int) (pd_op opd_mul (pd_nm 2) pd_int)) pd_int) pda_nil)) pd_int) (pdg_sub (pd_nm 0) pd_int (setd C.un1))) (pdss_one (pds_if (pdt_cmp opd_ge (pd_nm 2) (pd_op opd_pow pd_int pd_int) (nomark _)) (pdss_one (pds_asg (pd_nm 2) (pdg_sub (pd_nm 0) pd_int (setd C.un1)))) pdss_nil))))) pdss_nil) (pdss_cons (pds_if (pdt_cmp opd_gt (pd_ix (ixd C.un1) (pd_nm 0) pd_int) pd_int (nomark _)) (pdss_cons (pds_set 3 C.nd (pd_op opd_mod (pd_callTy cd_int F.f_int bt_int (pda_cons (pd_ix (ixd C.un1) (pd_nm 0) pd_int) pda_nil)) (pd_nm 1))) (pdss_cons (pds_asg (pd_op opd_fdiv (pd_ix (ixd C.un1) (pd_nm 0) pd_int) (pd_nm 1)) (pdg_sub (pd_nm 0) pd_int (setd C.un1))) (pdss_one (pds_ret (pd_nm 3))))) pdss_nil) (pdss_cons (pds_asg (pd_op opd_add (pd_ix (ixd C.un1) (pd_nm 0) pd_int) pd_int) (pdg_sub (pd_nm 0) pd_int (setd C.un1))) (pdss_cons (pds_set 4 C.nd (pd_op opd_mod (pd_callTy cd_int F.f_int bt_int (pda_cons (pd_op opd_mul (pd_callTy cd_int F.f_int bt_int (pda_cons (pd_op opd_add (pd_ix (ixd C.un1) (pd_nm 0) pd_int) (pd_op opd_mul pd_int (pd_ix (ixd C.un1) (pd_nm 0) pd_int))) pda_nil)) pd_int) pda_nil)) pd_int)) (pdss_cons (pds_set 4 C.nd (pd_op opd_mod (pd_callTy cd_int F.f_int bt_int (pda_cons (pd_op opd_mul (pd_nm 4) (pd_op opd_add (pd_op opd_fdiv (pd_nm 4) pd_int) pd_int)) pda_nil)) pd_int)) (pdss_cons (pds_set 4 C.nd (pd_op opd_mod (pd_callTy cd_int F.f_int bt_int (pda_cons (pd_op opd_mul (pd_nm 4) (pd_op opd_add (pd_op opd_fdiv (pd_nm 4) pd_int) pd_int)) pda_nil)) pd_int)) (pdss_one (pds_ret (pd_op opd_mod (pd_callTy cd_int F.f_int bt_int (pda_cons (pd_op opd_fdiv (pd_nm 4) pd_int) pda_nil)) (pd_nm 1))))))))))
/-! ### _law_any -/
abbrev st__law_any : Stmt := top 30
abbrev N__law_any : List Str := ["hand", "some"]
abbrev ps__law_any : List Str := ["hand", "some"]
theorem sc__law_any : FnScope N__law_any ps__law_any (defScope st__law_any) := ⟨rfl, rfl, rfl, by decide +kernel, rfl, by decide +kernel, by decide +kernel⟩
def t__law_any (Γ : Gn) (ex : DXE) : DS := (sRet (dOp oIx (dVar 1) (dCall (sp__law_draw Γ) ex (dCons (dVar 0) (dCons (dCB nLen (dCons (dVar 1) dNil)) dNil)))))
theorem d__law_any {P : Program} {w : World} {Γ : Gn} {base : Heap} {T : List (Addr × Str)} {f : Addr} {cdv : Value} {A : Around} {outer : List PySem.Env} {s : Shared} {H : Hp} {E : XK} {ex : DXE} (F : Fx Γ w)  (c__law_draw : CalG P w Γ.K Γ.mg base T false 1 "_law_draw" (sp__law_draw Γ)) (C : Ct (bodyCx P w Γ.K Γ.mg base N__law_any "_law_any" (defScope st__law_any) f cdv A outer s H E) ⟨T, H⟩ false 1 ex) :
    PDSs (bodyCx P w Γ.K Γ.mg base N__law_any "_law_any" (defScope st__law_any) f cdv A outer s H E) ⟨T, H⟩ (defBody st__law_any) (t__law_any Γ ex) := by
  exact (pdss_one (pds_ret (pd_ix (ixd C.un1) (pd_nm 1) (pd_call C.toCe c__law_draw (by decide) (fun z => nomatch z) (pda_cons (pd_nm 0) (pda_cons (pd_callB cd_len F.f_len bt_len (pda_cons (pd_nm 1) pda_nil)) pda_nil))))))
/-! ### _law_ranks -/
abbrev st__law_ranks : Stmt := top 31
abbrev N__law_ranks : List Str := []
abbrev ps__law_ranks : List Str := []
theorem sc__law_ranks : FnScope N__law_ranks ps__law_ranks (defScope st__law_ranks) := ⟨rfl, rfl, rfl, by decide +kernel, rfl, by decide +kernel, by decide +kernel⟩
def t__law_ranks (Γ : Gn) (ex : DXE) : DS := (sRet (dLst (dCons (dTup (dCons (dC (.str "a")) (dCons (dC (.int 0)) dNil))) (dCons (dTup (dCons (dC (.str "b")) (dCons (dC (.int 0)) dNil))) (dCons (dTup (dCons (dC (.str "c")) (dCons (dC (.int 0)) dNil))) (dCons (dTup (dCons (dC (.str "f")) (dCons (dC (.int 2)) dNil))) (dCons (dTup (dCons (dC (.str "g")) (dCons (dC (.int 2)) dNil))) (dCons (dTup (dCons (dC (.str "h")) (dCons (dC (.int 3)) dNil))) (dCons (dTup (dCons (dC (.str "s")) (dCons (dC (.int 1)) dNil))) (dCons (dTup (dCons (dC (.str "t")) (dCons (dC (.int 1)) dNil))) dNil))))))))))
theorem d__law_ranks {P : Program} {w : World} {Γ : Gn} {base : Heap} {T : List (Addr × Str)} {f : Addr} {cdv : Value} {A : Around} {outer : List PySem.Env} {s : Shared} {H : Hp} {E : XK} {ex : DXE} (F : Fx Γ w) (C : Ct (bodyCx P w Γ.K Γ.mg base N__law_ranks "_law_ranks" (defScope st__law_ranks) f cdv A outer s H E) ⟨T, H⟩ false 0 ex) :
    PDSs (bodyCx P w Γ.K Γ.mg base N__law_ranks "_law_ranks" (defScope st__law_ranks) f cdv A outer s H E) ⟨T, H⟩ (defBody st__law_ranks) (t__law_ranks Γ ex) := by
  exact (pdss_one (pds_ret (pd_lst (pda_cons (pd_tup (pda_cons pd_str (pda_cons pd_int pda_nil))) (pda_cons (pd_tup (pda_cons pd_str (pda_cons pd_int pda_nil))) (pda_cons (pd_tup (pda_cons pd_str (pda_cons pd_int pda_nil))) (pda_cons (pd_tup (pda_cons pd_str (pda_cons pd_int pda_nil))) (pda_cons (pd_tup (pda_cons pd_str (pda_cons pd_int pda_nil))) (pda_cons (pd_tup (pda_cons pd_str (pda_cons pd_int pda_nil))) (pda_cons (pd_tup (pda_cons pd_str (pda_cons pd_int pda_nil))) (pda_cons (pd_tup (pda_cons pd_str (pda_cons pd_int pda_nil))) pda_nil)))))))))))
/-! ### _law_to -/
abbrev st__law_to : Stmt := top 32
abbrev N__law_to : List Str := ["sort", "sign", "row", "place", "one"]
abbrev ps__law_to : List Str := ["sort", "sign", "row"]
theorem sc__law_to : FnScope N__law_to ps__law_to (defScope st__law_to) := ⟨rfl, rfl, rfl, by decide +kernel, rfl, by decide +kernel, by decide +kernel⟩
def b__law_to_1 (Γ : Gn) (ex : DXE) : DS := (sSet 3 (dOp oAdd (dOp oMul (dVar 3) (dOp oIx (dVar 0) (dC (.int 0)))) (dVar 4)))
def u__law_to_2 (Γ : Gn) (ex : DXE) : DS := (sRet (dOp oIx (dOp oIx (dOp oIx (dVar 0) (dC (.int 1))) (dVar 1)) (dVar 3)))
def u__law_to_1 (Γ : Gn) (ex : DXE) : DS := (sSeq (sFor (iLstD (dVar 2)) (gNm 4) (b__law_to_1 Γ ex)) (u__law_to_2 Γ ex))
def t__law_to (Γ : Gn) (ex : DXE) : DS := (sSeq (sSet 3 (dC (.int 0))) (u__law_to_1 Γ ex))
theorem d__law_to {P : Program} {w : World} {Γ : Gn} {base : Heap} {T : List (Addr × Str)} {f : Addr} {cdv : Value} {A : Around} {outer : List PySem.Env} {s : Shared} {H : Hp} {E : XK} {ex : DXE} (F : Fx Γ w) (C : Ct (bodyCx P w Γ.K Γ.mg base N__law_to "_law_to" (defScope st__law_to) f cdv A outer s H E) ⟨T, H⟩ false 0 ex) :
    PDSs (bodyCx P w Γ.K Γ.mg base N__law_to "_law_to" (defScope st__law_to) f cdv A outer s H E) ⟨T, H⟩ (defBody st__law_to) (t__law_to Γ ex) := by
  exact (pdss_cons (pds_set 3 C.nd pd_int) (pdss_cons (pds_for C.hp C.calm (pdi_lst (pd_nm 2)) (pdg_nm 4 C.nd) (pdss_one (pds_set 3 C.nd (pd_op opd_add (pd_op opd_mul (pd_nm 3) (pd_ix (ixd C.un1) (pd_nm 0) pd_int)) (pd_nm 4))))) (pdss_one (pds_ret (pd_ix (ixd C.un1) (pd_ix (ixd C.un1) (pd_ix (ixd C.un1) (pd_nm 0) pd_int) (pd_nm 1)) (pd_nm 3))))))
/-! ### _law_sort -/
abbrev st__law_sort : Stmt := top 33
abbrev N__law_sort : List Str := ["hand", "many", "rules", "left", "sign", "rank", "row", "one"]
abbrev ps__law_sort : List Str := ["hand"]
theorem sc__law_sort : FnScope N__law_sort ps__law_sort (defScope st__law_sort) := ⟨rfl, rfl, rfl, by decide +kernel, rfl, by decide +kernel, by decide +kernel⟩
def u__law_sort_1_1 (Γ : Gn) (ex : DXE) : DS := (sAsg (dCB nTuple (dCons (dLc (iRng1D (dCons (dOp oIx (dLst (dCons (dC (.int 1)) (dCons (dVar 1) (dCons (dOp oMul (dVar 1) (dVar 1)) (dCons (dOp oMul (dOp oMul (dVar 1) (dVar 1)) (dVar 1)) dNil))))) (dVar 5)) dNil)) (.one 6) tYesD (dCall (sp__law_draw Γ) noX (dCons (dVar 0) (dCons (dVar 1) dNil))) [6]) dNil)) (gSub (dVar 2) (dVar 4) oSet))
def b__law_sort_1 (Γ : Gn) (ex : DXE) : DS := (sSeq (sAsg (dBM isLst mPopAt (dVar 3) (dCons (dCall (sp__law_draw Γ) ex (dCons (dVar 0) (dCons (dCB nLen (dCons (dVar 3) dNil)) dNil))) dNil)) (gTp 2 (gsCons (gNm 4) (gsCons (gNm 5) gsNil)))) (u__law_sort_1_1 Γ ex))
def u__law_sort_2 (Γ : Gn) (ex : DXE) : DS := (sRet (dTup (dCons (dVar 1) (dCons (dVar 2) (dCons (dCB nTuple (dCons (dLc (iRng1D (dCons (dVar 1) dNil)) (.one 7) (dB (dOp (oEqB false) (dCall (sp__law_draw Γ) noX (dCons (dVar 0) (dCons (dC (.int 2)) dNil))) (dC (.int 0)))) (dVar 7) [7]) dNil)) dNil)))))
def u__law_sort_1 (Γ : Gn) (ex : DXE) : DS := (sSeq (sWhile (dB (dOp oGt (dCB nLen (dCons (dVar 3) dNil)) (dC (.int 0)))) (b__law_sort_1 Γ ex)) (u__law_sort_2 Γ ex))
def t__law_sort (Γ : Gn) (ex : DXE) : DS := (sSeq (sAsg (dTup (dCons (dOp oAdd (dC (.int 1)) (dCall (sp__law_draw Γ) ex (dCons (dVar 0) (dCons (dC (.int 5)) dNil)))) (dCons dNewK (dCons (dCall (sp__law_ranks Γ) ex dNil) dNil)))) (gTp 3 (gsCons (gNm 1) (gsCons (gNm 2) (gsCons (gNm 3) gsNil))))) (u__law_sort_1 Γ ex))
theorem d__law_sort {P : Program} {w : World} {Γ : Gn} {base : Heap} {T : List (Addr × Str)} {f : Addr} {cdv : Value} {A : Around} {outer : List PySem.Env} {s : Shared} {H : Hp} {E : XK} {ex : DXE} (F : Fx Γ w)  (c__law_ranks : CalG P w Γ.K Γ.mg base T false 1 "_law_ranks" (sp__law_ranks Γ)) (c__law_draw : CalG P w Γ.K Γ.mg base T false 1 "_law_draw" (sp__law_draw Γ)) (C : Ct (bodyCx P w Γ.K Γ.mg base N__law_sort "_law_sort" (defScope st__law_sort) f cdv A outer s H E) ⟨T, H⟩ false 1 ex) :
    PDSs (bodyCx P w Γ.K Γ.mg base N__law_sort "_law_sort" (defScope st__law_sort) f cdv A outer s H E) ⟨T, H⟩ (defBody st__law_sort) (t__law_sort Γ ex) := by
  exact (pdss_cons (pds_asg (pd_tup (pda_cons (pd_op opd_add pd_int (pd_call C.toCe c__law_draw (by decide) (fun z => nomatch z) (pda_cons (pd_nm 0) (pda_cons pd_int pda_nil)))) (pda_cons pd_newK (pda_cons (pd_call0 C.toCe c__law_ranks (by decide) (fun z => nomatch z)) pda_nil)))) (pdg_tup C.calm (pdgs_cons (pdg_nm 1 C.nd) (pdgs_cons (pdg_nm 2 C.nd) (pdgs_cons (pdg_nm 3 C.nd) pdgs_nil))))) (pdss_cons (pds_while C.hp (pdt_cmp opd_gt (pd_callB cd_len F.f_len bt_len (pda_cons (pd_nm 3) pda_nil)) pd_int (nomark _)) (pdss_cons (pds_asg (pd_bm PySem.F.plainAttrs_list PySem.F.slot_list_pop PySem.F.type_list_pop mtd_popAt (pd_nm 3) (pda_cons (pd_call C.toCe c__law_draw (by decide) (fun z => nomatch z) (pda_cons (pd_nm 0) (pda_cons (pd_callB cd_len F.f_len bt_len (pda_cons (pd_nm 3) pda_nil)) pda_nil))) pda_nil)) (pdg_tup C.calm (pdgs_cons (pdg_nm 4 C.nd) (pdgs_cons (pdg_nm 5 C.nd) pdgs_nil)))) (pdss_one (pds_asg (pd_callTy cd_tuple F.f_tuple bt_tuple (pda_cons (pd_lc (ct := (.one 6)) C.calm C.nd (pdi_rng1 F.f_range (pda_cons (pd_ix (ixd C.un1) (pd_lst (pda_cons pd_int (pda_cons (pd_nm 1) (pda_cons (pd_op opd_mul (pd_nm 1) (pd_nm 1)) (pda_cons (pd_op opd_mul (pd_op opd_mul (pd_nm 1) (pd_nm 1)) (pd_nm 1)) pda_nil))))) (pd_nm 5)) pda_nil)) (blkOk_by (N := N__law_sort) (sc := defScope st__law_sort) (own := [("row", 6)]) (by decide +kernel)) (by decide) (fun _ _ _ _ _ => pg_name C.nd rfl (Or.inl rfl)) (fun _ _ _ _ _ => ptd_nil) (fun _ _ _ _ _ => (pd_call (C.toCe.blk _ _ _ _ _) c__law_draw (by decide) (fun z => nomatch z) (pda_cons (pd_nm 0) (pda_cons (pd_nm 1) pda_nil))))) pda_nil)) (pdg_sub (pd_nm 2) (pd_nm 4) (setd C.un1)))))) (pdss_one (pds_ret (pd_tup (pda_cons (pd_nm 1) (pda_cons (pd_nm 2) (pda_cons (pd_callTy cd_tuple F.f_tuple bt_tuple (pda_cons (pd_lc (ct := (.one 7)) C.calm C.nd (pdi_rng1 F.f_range (pda_cons (pd_nm 1) pda_nil)) (blkOk_by (N := N__law_sort) (sc := defScope st__law_sort) (own := [("one", 7)]) (by decide +kernel)) (by decide) (fun _ _ _ _ _ => pg_name C.nd rfl (Or.inl rfl)) (fun _ _ _ _ _ => ptd_one (pdt_cmp (opd_eq C.un) (pd_call (C.toCe.blk _ _ _ _ _) c__law_draw (by decide) (fun z => nomatch z) (pda_cons (pd_nm 0) (pda_cons pd_int pda_nil))) pd_int (nomark _))) (fun _ _ _ _ _ => (pd_nm 7))) pda_nil)) pda_nil))))))))
/-! ### _law_tree -/
abbrev st__law_tree : Stmt := top 34
abbrev N__law_tree : List Str := ["hand", "deep", "sign", "rank", "part"]
abbrev ps__law_tree : List Str := ["hand", "deep"]
theorem sc__law_tree : FnScope N__law_tree ps__law_tree (defScope st__law_tree) := ⟨rfl, rfl, rfl, by decide +kernel, rfl, by decide +kernel, by decide +kernel⟩
def u__law_tree_1 (Γ : Gn) (sp__law_tree : DSp) (ex : DXE) : DS := (sRet (dOp oAdd (dTup (dCons (dVar 2) dNil)) (dCB nTuple (dCons (dLc (iRng1D (dCons (dVar 3) dNil)) (.one 4) tYesD (dCall sp__law_tree noX (dCons (dVar 0) (dCons (dOp oSub (dVar 1) (dC (.int 1))) dNil))) [4]) dNil))))
def t__law_tree (Γ : Gn) (sp__law_tree : DSp) (ex : DXE) : DS := (sSeq (sAsg (dCall (sp__law_any Γ) ex (dCons (dVar 0) (dCons (dIf (dB (dOp (oEqB false) (dVar 1) (dC (.int 0)))) (dSl oSl (dCall (sp__law_ranks Γ) ex dNil) dNoPart (dPart (dC (.int 3)))) (dCall (sp__law_ranks Γ) ex dNil)) dNil))) (gTp 2 (gsCons (gNm 2) (gsCons (gNm 3) gsNil)))) (u__law_tree_1 Γ sp__law_tree ex))
theorem d__law_tree {P : Program} {w : World} {Γ : Gn} {base : Heap} {T : List (Addr × Str)} {f : Addr} {cdv : Value} {A : Around} {outer : List PySem.Env} {s : Shared} {H : Hp} {E : XK} {ex : DXE} (F : Fx Γ w) {kk : Nat} {spS : DSp}  (c__law_any : CalG P w Γ.K Γ.mg base T false 2 "_law_any" (sp__law_any Γ)) (c__law_ranks : CalG P w Γ.K Γ.mg base T false 1 "_law_ranks" (sp__law_ranks Γ)) (c__law_tree : CalG P w Γ.K Γ.mg base T false kk "_law_tree" spS) (hk0 : 6 ≤ kk) (C : Ct (bodyCx P w Γ.K Γ.mg base N__law_tree "_law_tree" (defScope st__law_tree) f cdv A outer s H E) ⟨T, H⟩ false kk ex) :
    PDSs (bodyCx P w Γ.K Γ.mg base N__law_tree "_law_tree" (defScope st__law_tree) f cdv A outer s H E) ⟨T, H⟩ (defBody st__law_tree) (t__law_tree Γ spS ex) := by
  exact (pdss_cons (pds_asg (pd_call C.toCe c__law_any (Nat.le_trans (by decide) hk0) (fun z => nomatch z) (pda_cons (pd_nm 0) (pda_cons (pd_ifExp (pdt_cmp (opd_eq C.un) (pd_nm 1) pd_int (nomark _)) (pd_slice sld (pd_call0 C.toCe c__law_ranks (Nat.le_trans (by decide) hk0) (fun z => nomatch z)) pdo_none (pdo_some pd_int)) (pd_call0 C.toCe c__law_ranks (Nat.le_trans (by decide) hk0) (fun z => nomatch z))) pda_nil))) (pdg_tup C.calm (pdgs_cons (pdg_nm 2 C.nd) (pdgs_cons (pdg_nm 3 C.nd) pdgs_nil)))) (pdss_one (pds_ret (pd_op opd_add (pd_tup (pda_cons (pd_nm 2) pda_nil)) (pd_callTy cd_tuple F.f_tuple bt_tuple (pda_cons (pd_lc (ct := (.one 4)) C.calm C.nd (pdi_rng1 F.f_range (pda_cons (pd_nm 3) pda_nil)) (blkOk_by (N := N__law_tree) (sc := defScope st__law_tree) (own := [("part", 4)]) (by decide +kernel)) (by decide) (fun _ _ _ _ _ => pg_name C.nd rfl (Or.inl rfl)) (fun _ _ _ _ _ => ptd_nil) (fun _ _ _ _ _ => (pd_call (C.toCe.blk _ _ _ _ _) c__law_tree (Nat.le_refl _) (fun z => nomatch z) (pda_cons (pd_nm 0) (pda_cons (pd_op opd_sub (pd_nm 1) pd_int) pda_nil))))) pda_nil))))))
/-! ### _law_chain -/
abbrev st__law_chain : Stmt := top 35
abbrev N__law_chain : List Str := ["hand", "deep", "tree", "turn"]
abbrev ps__law_chain : List Str := ["hand", "deep"]
theorem sc__law_chain : FnScope N__law_chain ps__law_chain (defScope st__law_chain) := ⟨rfl, rfl, rfl, by decide +kernel, rfl, by decide +kernel, by decide +kernel⟩
def b__law_chain_1 (Γ : Gn) (ex : DXE) : DS := (sSet 2 (dTup (dCons (dCall (sp__law_any Γ) ex (dCons (dVar 0) (dCons (dLst (dCons (dC (.str "s")) (dCons (dC (.str "t")) dNil))) dNil))) (dCons (dVar 2) dNil))))
def u__law_chain_2 (Γ : Gn) (ex : DXE) : DS := (sRet (dVar 2))
def u__law_chain_1 (Γ : Gn) (ex : DXE) : DS := (sSeq (sFor (iRng1D (dCons (dOp oSub (dVar 1) (dC (.int 1))) dNil)) (gNm 3) (b__law_chain_1 Γ ex)) (u__law_chain_2 Γ ex))
def t__law_chain (Γ : Gn) (ex : DXE) : DS := (sSeq (sSet 2 (dTup (dCons (dCall (sp__law_any Γ) ex (dCons (dVar 0) (dCons (dLst (dCons (dC (.str "a")) (dCons (dC (.str "b")) (dCons (dC (.str "c")) dNil)))) dNil))) dNil))) (u__law_chain_1 Γ ex))
theorem d__law_chain {P : Program} {w : World} {Γ : Gn} {base : Heap} {T : List (Addr × Str)} {f : Addr} {cdv : Value} {A : Around} {outer : List PySem.Env} {s : Shared} {H : Hp} {E : XK} {ex : DXE} (F : Fx Γ w)  (c__law_any : CalG P w Γ.K Γ.mg base T false 2 "_law_any" (sp__law_any Γ)) (C : Ct (bodyCx P w Γ.K Γ.mg base N__law_chain "_law_chain" (defScope st__law_chain) f cdv A outer s H E) ⟨T, H⟩ false 2 ex) :
    PDSs (bodyCx P w Γ.K Γ.mg base N__law_chain "_law_chain" (defScope st__law_chain) f cdv A outer s H E) ⟨T, H⟩ (defBody st__law_chain) (t__law_chain Γ ex) := by
  exact (pdss_cons (pds_set 2 C.nd (pd_tup (pda_cons (pd_call C.toCe c__law_any (by decide) (fun z => nomatch z) (pda_cons (pd_nm 0) (pda_cons (pd_lst (pda_cons pd_str (pda_cons pd_str (pda_cons pd_str pda_nil)))) pda_nil))) pda_nil))) (pdss_cons (pds_for C.hp C.calm (pdi_rng1 F.f_range (pda_cons (pd_op opd_sub (pd_nm 1) pd_int) pda_nil)) (pdg_nm 3 C.nd) (pdss_one (pds_set 2 C.nd (pd_tup (pda_cons (pd_call C.toCe c__law_any (by decide) (fun z => nomatch z) (pda_cons (pd_nm 0) (pda_cons (pd_lst (pda_cons pd_str (pda_cons pd_str pda_nil))) pda_nil))) (pda_cons (pd_nm 2) pda_nil)))))) (pdss_one (pds_ret (pd_nm 2)))))
/-! ### _law_full -/
abbrev st__law_full : Stmt := top 36
abbrev N__law_full : List Str := ["hand", "deep", "tree", "turn"]
abbrev ps__law_full : List Str := ["hand", "deep"]
theorem sc__law_full : FnScope N__law_full ps__law_full (defScope st__law_full) := ⟨rfl, rfl, rfl, by decide +kernel, rfl, by decide +kernel, by decide +kernel⟩
def b__law_full_1 (Γ : Gn) (ex : DXE) : DS := (sSet 2 (dTup (dCons (dCall (sp__law_any Γ) ex (dCons (dVar 0) (dCons (dLst (dCons (dC (.str "f")) (dCons (dC (.str "g")) dNil))) dNil))) (dCons (dVar 2) (dCons (dVar 2) dNil)))))
def u__law_full_2 (Γ : Gn) (ex : DXE) : DS := (sRet (dVar 2))
def u__law_full_1 (Γ : Gn) (ex : DXE) : DS := (sSeq (sFor (iRng1D (dCons (dOp oSub (dVar 1) (dC (.int 1))) dNil)) (gNm 3) (b__law_full_1 Γ ex)) (u__law_full_2 Γ ex))
def t__law_full (Γ : Gn) (ex : DXE) : DS := (sSeq (sSet 2 (dTup (dCons (dCall (sp__law_any Γ) ex (dCons (dVar 0) (dCons (dLst (dCons (dC (.str "a")) (dCons (dC (.str "b")) (dCons (dC (.str "c")) dNil)))) dNil))) dNil))) (u__law_full_1 Γ ex))
theorem d__law_full {P : Program} {w : World} {Γ : Gn} {base : Heap} {T : List (Addr × Str)} {f : Addr} {cdv : Value} {A : Around} {outer : List PySem.Env} {s : Shared} {H : Hp} {E : XK} {ex : DXE} (F : Fx Γ w)  (c__law_any : CalG P w Γ.K Γ.mg base T false 2 "_law_any" (sp__law_any Γ)) (C : Ct (bodyCx P w Γ.K Γ.mg base N__law_full "_law_full" (defScope st__law_full) f cdv A outer s H E) ⟨T, H⟩ false 2 ex) :
    PDSs (bodyCx P w Γ.K Γ.mg base N__law_full "_law_full" (defScope st__law_full) f cdv A outer s H E) ⟨T, H⟩ (defBody st__law_full) (t__law_full Γ ex) := by
  exact (pdss_cons (pds_set 2 C.nd (pd_tup (pda_cons (pd_call C.toCe c__law_any (by decide) (fun z => nomatch z) (pda_cons (pd_nm 0) (pda_cons (pd_lst (pda_cons pd_str (pda_cons pd_str (pda_cons pd_str pda_nil)))) pda_nil))) pda_nil))) (pdss_cons (pds_for C.hp C.calm (pdi_rng1 F.f_range (pda_cons (pd_op opd_sub (pd_nm 1) pd_int) pda_nil)) (pdg_nm 3 C.nd) (pdss_one (pds_set 2 C.nd (pd_tup (pda_cons (pd_call C.toCe c__law_any (by decide) (fun z => nomatch z) (pda_cons (pd_nm 0) (pda_cons (pd_lst (pda_cons pd_str (pda_cons pd_str pda_nil))) pda_nil))) (pda_cons (pd_nm 2) (pda_cons (pd_nm 2) pda_nil))))))) (pdss_one (pds_ret (pd_nm 2)))))
/-! ### _law_number -/
abbrev st__law_number : Stmt := top 37
abbrev N__law_number : List Str := ["sort", "tree", "part"]
abbrev ps__law_number : List Str := ["sort", "tree"]
theorem sc__law_number : FnScope N__law_number ps__law_number (defScope st__law_number) := ⟨rfl, rfl, rfl, by decide +kernel, rfl, by decide +kernel, by decide +kernel⟩
def t__law_number (Γ : Gn) (sp__law_number : DSp) (ex : DXE) : DS := (sRet (dCall (sp__law_to Γ) ex (dCons (dVar 0) (dCons (dOp oIx (dVar 1) (dC (.int 0))) (dCons (dLc (iTupD (dSl oSl (dVar 1) (dPart (dC (.int 1))) dNoPart)) (.one 2) tYesD (dCall sp__law_number noX (dCons (dVar 0) (dCons (dVar 2) dNil))) [2]) dNil)))))
theorem d__law_number {P : Program} {w : World} {Γ : Gn} {base : Heap} {T : List (Addr × Str)} {f : Addr} {cdv : Value} {A : Around} {outer : List PySem.Env} {s : Shared} {H : Hp} {E : XK} {ex : DXE} (F : Fx Γ w) {kk : Nat} {spS : DSp}  (c__law_to : CalG P w Γ.K Γ.mg base T false 1 "_law_to" (sp__law_to Γ)) (c__law_number : CalG P w Γ.K Γ.mg base T false kk "_law_number" spS) (hk0 : 41 ≤ kk) (C : Ct (bodyCx P w Γ.K Γ.mg base N__law_number "_law_number" (defScope st__law_number) f cdv A outer s H E) ⟨T, H⟩ false kk ex) :
    PDSs (bodyCx P w Γ.K Γ.mg base N__law_number "_law_number" (defScope st__law_number) f cdv A outer s H E) ⟨T, H⟩ (defBody st__law_number) (t__law_number Γ spS ex) := by
  exact (pdss_one (pds_ret (pd_call C.toCe c__law_to (Nat.le_trans (by decide) hk0) (fun z => nomatch z) (pda_cons (pd_nm 0) (pda_cons (pd_ix (ixd C.un1) (pd_nm 1) pd_int) (pda_cons (pd_lc (ct := (.one 2)) C.calm C.nd (pdi_tup (pd_slice sld (pd_nm 1) (pdo_some pd_int) pdo_none)) (blkOk_by (N := N__law_number) (sc := defScope st__law_number) (own := [("part", 2)]) (by decide +kernel)) (by decide) (fun _ _ _ _ _ => pg_name C.nd rfl (Or.inl rfl)) (fun _ _ _ _ _ => ptd_nil) (fun _ _ _ _ _ => (pd_call (C.toCe.blk _ _ _ _ _) c__law_number (Nat.le_refl _) (fun z => nomatch z) (pda_cons (pd_nm 0) (pda_cons (pd_nm 2) pda_nil))))) pda_nil))))))
/-! ### _law_wrong -/
abbrev st__law_wrong : Stmt := top 38
abbrev N__law_wrong : List Str := ["hand", "sort", "many", "rules", "good", "sign", "row", "some", "other", "bent", "less", "more"]
abbrev ps__law_wrong : List Str := ["hand", "sort"]
theorem sc__law_wrong : FnScope N__law_wrong ps__law_wrong (defScope st__law_wrong) := ⟨rfl, rfl, rfl, by decide +kernel, rfl, by decide +kernel, by decide +kernel⟩
def u__law_wrong_3_2 (Γ : Gn) (ex : DXE) : DS := (sDrop (dBM isLst mAppend (dVar 7) (dCons (dTup (dCons (dVar 2) (dCons (dVar 9) (dCons (dVar 4) dNil)))) dNil)))
def u__law_wrong_3_1 (Γ : Gn) (ex : DXE) : DS := (sSeq (sAsg (dVar 8) (gSub (dVar 9) (dVar 5) oSet)) (u__law_wrong_3_2 Γ ex))
def b__law_wrong_3 (Γ : Gn) (ex : DXE) : DS := (sSeq (sSet 9 (dCB nDict (dCons (dVar 3) dNil))) (u__law_wrong_3_1 Γ ex))
def u__law_wrong_13 (Γ : Gn) (ex : DXE) : DS := (sRet (dCall (sp__law_any Γ) ex (dCons (dVar 0) (dCons (dVar 7) dNil))))
def u__law_wrong_12 (Γ : Gn) (ex : DXE) : DS := (sSeq (sIf (dB (dOp oGt (dCB nLen (dCons (dVar 4) dNil)) (dC (.int 1)))) (sDrop (dBM isLst mAppend (dVar 7) (dCons (dTup (dCons (dVar 2) (dCons (dVar 3) (dCons (dRevT (dVar 4)) dNil)))) dNil))) sNext) (u__law_wrong_13 Γ ex))
def u__law_wrong_11 (Γ : Gn) (ex : DXE) : DS := (sSeq (sSet 7 (dOp oAdd (dVar 7) (dLst (dCons (dCB nList (dCons (dVar 1) dNil)) (dCons (dSl oSl (dVar 1) dNoPart (dPart (dC (.int 2)))) (dCons (dOp oAdd (dVar 1) (dTup (dCons (dC (.int 0)) dNil))) (dCons (dC .non) (dCons (dC (.int 7)) (dCons (dC (.str "type")) (dCons (dTup dNil) (dCons dNewK dNil))))))))))) (u__law_wrong_12 Γ ex))
def u__law_wrong_10 (Γ : Gn) (ex : DXE) : DS := (sSeq (sSet 7 (dOp oAdd (dVar 7) (dLst (dCons (dTup (dCons (dVar 2) (dCons (dVar 3) (dCons (dTup (dCons (dC (.bl false)) dNil)) dNil)))) (dCons (dTup (dCons (dVar 2) (dCons (dVar 3) (dCons (dTup (dCons (dUn oNeg (dC (.int 1))) dNil)) dNil)))) (dCons (dTup (dCons (dVar 2) (dCons (dVar 3) (dCons (dC .non) dNil)))) (dCons (dTup (dCons (dC .non) (dCons (dVar 3) (dCons (dVar 4) dNil)))) dNil))))))) (u__law_wrong_11 Γ ex))
def u__law_wrong_9 (Γ : Gn) (ex : DXE) : DS := (sSeq (sSet 7 (dOp oAdd (dVar 7) (dLst (dCons (dTup (dCons (dVar 2) (dCons (dVar 3) (dCons (dCB nList (dCons (dVar 4) dNil)) dNil)))) (dCons (dTup (dCons (dVar 2) (dCons (dVar 3) (dCons (dOp oAdd (dVar 4) (dTup (dCons (dVar 2) dNil))) dNil)))) (dCons (dTup (dCons (dVar 2) (dCons (dVar 3) (dCons (dTup (dCons (dC (.int 0)) (dCons (dC (.int 0)) dNil))) dNil)))) dNil)))))) (u__law_wrong_10 Γ ex))
def u__law_wrong_8 (Γ : Gn) (ex : DXE) : DS := (sSeq (sSet 7 (dOp oAdd (dVar 7) (dLst (dCons (dTup (dCons (dC (.int 0)) (dCons (dVar 3) (dCons (dTup dNil) dNil)))) (dCons (dTup (dCons (dC (.int 6)) (dCons (dVar 3) (dCons (dVar 4) dNil)))) (dCons (dTup (dCons (dC (.bl true)) (dCons (dVar 3) (dCons (dVar 4) dNil)))) (dCons (dTup (dCons (dOp oAdd (dC (.int 1)) (dOp oMod (dCB nInt (dCons (dVar 2) dNil)) (dC (.int 5)))) (dCons (dVar 3) (dCons (dVar 4) dNil)))) dNil))))))) (u__law_wrong_9 Γ ex))
def u__law_wrong_7 (Γ : Gn) (ex : DXE) : DS := (sSeq (sSet 7 (dOp oAdd (dVar 7) (dLst (dCons (dTup (dCons (dVar 2) (dCons (dVar 10) (dCons (dVar 4) dNil)))) (dCons (dTup (dCons (dVar 2) (dCons (dVar 11) (dCons (dVar 4) dNil)))) (dCons (dTup (dCons (dVar 2) (dCons (dC .non) (dCons (dVar 4) dNil)))) (dCons (dTup (dCons (dVar 2) (dCons (dCB nList (dCons (dVar 3) dNil)) (dCons (dVar 4) dNil)))) dNil))))))) (u__law_wrong_8 Γ ex))
def u__law_wrong_6 (Γ : Gn) (ex : DXE) : DS := (sSeq (sAsg (dTup (dCons (dC (.int 0)) dNil)) (gSub (dVar 11) (dC (.str "d")) oSet)) (u__law_wrong_7 Γ ex))
def u__law_wrong_5 (Γ : Gn) (ex : DXE) : DS := (sSeq (sDrop (dDPop1 (dVar 10) (dVar 5))) (u__law_wrong_6 Γ ex))
def u__law_wrong_4 (Γ : Gn) (ex : DXE) : DS := (sSeq (sPar 10 11 (dCons (dCB nDict (dCons (dVar 3) dNil)) (dCons (dCB nDict (dCons (dVar 3) dNil)) dNil))) (u__law_wrong_5 Γ ex))
def u__law_wrong_3 (Γ : Gn) (ex : DXE) : DS := (sSeq (sFor (iTupD (dTup (dCons (dSl oSl (dVar 6) dNoPart (dPart (dUn oNeg (dC (.int 1))))) (dCons (dOp oAdd (dVar 6) (dTup (dCons (dC (.int 0)) dNil))) (dCons (dOp oAdd (dSl oSl (dVar 6) dNoPart (dPart (dUn oNeg (dC (.int 1))))) (dTup (dCons (dVar 2) dNil))) (dCons (dOp oAdd (dSl oSl (dVar 6) dNoPart (dPart (dUn oNeg (dC (.int 1))))) (dTup (dCons (dC (.bl false)) dNil))) (dCons (dOp oAdd (dSl oSl (dVar 6) dNoPart (dPart (dUn oNeg (dC (.int 1))))) (dTup (dCons (dUn oNeg (dC (.int 1))) dNil))) (dCons (dCB nList (dCons (dVar 6) dNil)) (dCons (dC .non) dNil))))))))) (gNm 8) (b__law_wrong_3 Γ ex)) (u__law_wrong_4 Γ ex))
def u__law_wrong_2 (Γ : Gn) (ex : DXE) : DS := (sSeq (sPar 6 7 (dCons (dOp oIx (dVar 3) (dVar 5)) (dCons (dLst dNil) dNil))) (u__law_wrong_3 Γ ex))
def u__law_wrong_1 (Γ : Gn) (ex : DXE) : DS := (sSeq (sSet 5 (dCall (sp__law_any Γ) ex (dCons (dVar 0) (dCons (dLst (dCons (dC (.str "a")) (dCons (dC (.str "b")) (dCons (dC (.str "c")) (dCons (dC (.str "f")) (dCons (dC (.str "g")) (dCons (dC (.str "h")) (dCons (dC (.str "s")) (dCons (dC (.str "t")) dNil))))))))) dNil)))) (u__law_wrong_2 Γ ex))
def t__law_wrong (Γ : Gn) (ex : DXE) : DS := (sSeq (sAsg (dVar 1) (gTp 3 (gsCons (gNm 2) (gsCons (gNm 3) (gsCons (gNm 4) gsNil))))) (u__law_wrong_1 Γ ex))
theorem d__law_wrong {P : Program} {w : World} {Γ : Gn} {base : Heap} {T : List (Addr × Str)} {f : Addr} {cdv : Value} {A : Around} {outer : List PySem.Env} {s : Shared} {H : Hp} {E : XK} {ex : DXE} (F : Fx Γ w)  (c__law_any : CalG P w Γ.K Γ.mg base T false 2 "_law_any" (sp__law_any Γ)) (C : Ct (bodyCx P w Γ.K Γ.mg base N__law_wrong "_law_wrong" (defScope st__law_wrong) f cdv A outer s H E) ⟨T, H⟩ false 2 ex) :
    PDSs (bodyCx P w Γ.K Γ.mg base N__law_wrong "_law_wrong" (defScope st__law_wrong) f cdv A outer s H E) ⟨T, H⟩ (defBody st__law_wrong) (t__law_wrong Γ ex) := by
  exact (pdss_cons (pds_asg (pd_nm 1) (pdg_tup C.calm (pdgs_cons (pdg_nm 2 C.nd) (pdgs_cons (pdg_nm 3 C.nd) (pdgs_cons (pdg_nm 4 C.nd) pdgs_nil))))) (pdss_cons (pds_set 5 C.nd (pd_call C.toCe c__law_any (by decide) (fun z => nomatch z) (pda_cons (pd_nm 0) (pda_cons (pd_lst (pda_cons pd_str (pda_cons pd_str (pda_cons pd_str (pda_cons pd_str (pda_cons pd_str (pda_cons pd_str (pda_cons pd_str (pda_cons pd_str pda_nil))))))))) pda_nil)))) (pdss_cons (pds_par 6 7 C.calm C.nd (pda_cons (pd_ix (ixd C.un1) (pd_nm 3) (pd_nm 5)) (pda_cons (pd_lst pda_nil) pda_nil))) (pdss_cons (pds_for C.hp C.calm (pdi_tup (pd_tup (pda_cons (pd_slice sld (pd_nm 6) pdo_none (pdo_some (pd_un und_neg pd_int))) (pda_cons (pd_op opd_add (pd_nm 6) (pd_tup (pda_cons pd_int pda_nil))) (pda_cons (pd_op opd_add (pd_slice sld (pd_nm 6) pdo_none (pdo_some (pd_un und_neg pd_int))) (pd_tup (pda_cons (pd_nm 2) pda_nil))) (pda_cons (pd_op opd_add (pd_slice sld (pd_nm 6) pdo_none (pdo_some (pd_un und_neg pd_int))) (pd_tup (pda_cons pd_bl pda_nil))) (pda_cons (pd_op opd_add (pd_slice sld (pd_nm 6) pdo_none (pdo_some (pd_un und_neg pd_int))) (pd_tup (pda_cons (pd_un und_neg pd_int) pda_nil))) (pda_cons (pd_callTy (cd_list C.calm) F.f_list bt_list (pda_cons (pd_nm 6) pda_nil)) (pda_cons pd_non pda_nil))))))))) (pdg_nm 8 C.nd) (pdss_cons (pds_set 9 C.nd (pd_callTy (cd_dict C.calm) F.f_dict bt_dict (pda_cons (pd_nm 3) pda_nil))) (pdss_cons (pds_asg (pd_nm 8) (pdg_sub (pd_nm 9) (pd_nm 5) (setd C.un1))) (pdss_one (pds_expr (pd_bm PySem.F.plainAttrs_list PySem.F.slot_list_append PySem.F.type_list_append mtd_append (pd_nm 7) (pda_cons (pd_tup (pda_cons (pd_nm 2) (pda_cons (pd_nm 9) (pda_cons (pd_nm 4) pda_nil)))) pda_nil))))))) (pdss_cons (pds_par 10 11 C.calm C.nd (pda_cons (pd_callTy (cd_dict C.calm) F.f_dict bt_dict (pda_cons (pd_nm 3) pda_nil)) (pda_cons (pd_callTy (cd_dict C.calm) F.f_dict bt_dict (pda_cons (pd_nm 3) pda_nil)) pda_nil))) (pdss_cons (pds_expr (pd_dpop1 (pd_nm 10) (pd_nm 5))) (pdss_cons (pds_asg (pd_tup (pda_cons pd_int pda_nil)) (pdg_sub (pd_nm 11) pd_str (setd C.un1))) (pdss_cons (pds_set 7 C.nd (pd_op opd_add (pd_nm 7) (pd_lst (pda_cons (pd_tup (pda_cons (pd_nm 2) (pda_cons (pd_nm 10) (pda_cons (pd_nm 4) pda_nil)))) (pda_cons (pd_tup (pda_cons (pd_nm 2) (pda_cons (pd_nm 11) (pda_cons (pd_nm 4) pda_nil)))) (pda_cons (pd_tup (pda_cons (pd_nm 2) (pda_cons pd_non (pda_cons (pd_nm 4) pda_nil)))) (pda_cons (pd_tup (pda_cons (pd_nm 2) (pda_cons (pd_callTy (cd_list C.calm) F.f_list bt_list (pda_cons (pd_nm 3) pda_nil)) (pda_cons (pd_nm 4) pda_nil)))) pda_nil))))))) (pdss_cons (pds_set 7 C.nd (pd_op opd_add (pd_nm 7) (pd_lst (pda_cons (pd_tup (pda_cons pd_int (pda_cons (pd_nm 3) (pda_cons (pd_tup pda_nil) pda_nil)))) (pda_cons (pd_tup (pda_cons pd_int (pda_cons (pd_nm 3) (pda_cons (pd_nm 4) pda_nil)))) (pda_cons (pd_tup (pda_cons pd_bl (pda_cons (pd_nm 3) (pda_cons (pd_nm 4) pda_nil)))) (pda_cons (pd_tup (pda_cons (pd_op opd_add pd_int (pd_op opd_mod (pd_callTy cd_int F.f_int bt_int (pda_cons (pd_nm 2) pda_nil)) pd_int)) (pda_cons (pd_nm 3) (pda_cons (pd_nm 4) pda_nil)))) pda_nil))))))) (pdss_cons (pds_set 7 C.nd (pd_op opd_add (pd_nm 7) (pd_lst (pda_cons (pd_tup (pda_cons (pd_nm 2) (pda_cons (pd_nm 3) (pda_cons (pd_callTy (cd_list C.calm) F.f_list bt_list (pda_cons (pd_nm 4) pda_nil)) pda_nil)))) (pda_cons (pd_tup (pda_cons (pd_nm 2) (pda_cons (pd_nm 3) (pda_cons (pd_op opd_add (pd_nm 4) (pd_tup (pda_cons (pd_nm 2) pda_nil))) pda_nil)))) (pda_cons (pd_tup (pda_cons (pd_nm 2) (pda_cons (pd_nm 3) (pda_cons (pd_tup (pda_cons pd_int (pda_cons pd_int pda_nil))) pda_nil)))) pda_nil)))))) (pdss_cons (pds_set 7 C.nd (pd_op opd_add (pd_nm 7) (pd_lst (pda_cons (pd_tup (pda_cons (pd_nm 2) (pda_cons (pd_nm 3) (pda_cons (pd_tup (pda_cons pd_bl pda_nil)) pda_nil)))) (pda_cons (pd_tup (pda_cons (pd_nm 2) (pda_cons (pd_nm 3) (pda_cons (pd_tup (pda_cons (pd_un und_neg pd_int) pda_nil)) pda_nil)))) (pda_cons (pd_tup (pda_cons (pd_nm 2) (pda_cons (pd_nm 3) (pda_cons pd_non pda_nil)))) (pda_cons (pd_tup (pda_cons pd_non (pda_cons (pd_nm 3) (pda_cons (pd_nm 4) pda_nil)))) pda_nil))))))) (pdss_cons (pds_set 7 C.nd (pd_op opd_add (pd_nm 7) (pd_lst (pda_cons (pd_callTy (cd_list C.calm) F.f_list bt_list (pda_cons (pd_nm 1) pda_nil)) (pda_cons (pd_slice sld (pd_nm 1) pdo_none (pdo_some pd_int)) (pda_cons (pd_op opd_add (pd_nm 1) (pd_tup (pda_cons pd_int pda_nil))) (pda_cons pd_non (pda_cons pd_int (pda_cons pd_str (pda_cons (pd_tup pda_nil) (pda_cons pd_newK pda_nil))))))))))) (pdss_cons (pds_if (pdt_cmp opd_gt (pd_callB cd_len F.f_len bt_len (pda_cons (pd_nm 4) pda_nil)) pd_int (nomark _)) (pdss_one (pds_expr (pd_bm PySem.F.plainAttrs_list PySem.F.slot_list_append PySem.F.type_list_append mtd_append (pd_nm 7) (pda_cons (pd_tup (pda_cons (pd_nm 2) (pda_cons (pd_nm 3) (pda_cons (pd_revT (pd_nm 4)) pda_nil)))) pda_nil)))) pdss_nil) (pdss_one (pds_ret (pd_call C.toCe c__law_any (by decide) (fun z => nomatch z) (pda_cons (pd_nm 0) (pda_cons (pd_nm 7) pda_nil))))))))))))))))))
/-! ### _law_no_tree -/
abbrev st__law_no_tree : Stmt := top 39
abbrev N__law_no_tree : List Str := ["hand", "some"]
abbrev ps__law_no_tree : List Str := ["hand"]
theorem sc__law_no_tree : FnScope N__law_no_tree ps__law_no_tree (defScope st__law_no_tree) := ⟨rfl, rfl, rfl, by decide +kernel, rfl, by decide +kernel, by decide +kernel⟩
def u__law_no_tree_2 (Γ : Gn) (ex : DXE) : DS := (sRet (dCall (sp__law_any Γ) ex (dCons (dVar 0) (dCons (dOp oAdd (dVar 1) (dLst (dCons (dCall (sp__law_chain Γ) ex (dCons (dVar 0) (dCons (dC (.int 41)) dNil))) (dCons (dCall (sp__law_full Γ) ex (dCons (dVar 0) (dCons (dC (.int 9)) dNil))) dNil)))) dNil))))
def u__law_no_tree_1 (Γ : Gn) (ex : DXE) : DS := (sSeq (sSet 1 (dOp oAdd (dVar 1) (dLst (dCons (dTup (dCons (dC (.str "?")) dNil)) (dCons (dTup (dCons (dC (.str "A")) dNil)) (dCons (dTup (dCons (dC (.str "h")) (dCons (dTup (dCons (dC (.str "a")) dNil)) (dCons (dTup (dCons (dC (.str "a")) dNil)) dNil)))) (dCons (dTup (dCons (dTup (dCons (dC (.str "a")) dNil)) dNil)) (dCons (dTup (dCons (dC (.str "s")) (dCons (dC .non) dNil))) dNil)))))))) (u__law_no_tree_2 Γ ex))
def t__law_no_tree (Γ : Gn) (ex : DXE) : DS := (sSeq (sSet 1 (dLst (dCons (dC .non) (dCons (dC (.int 5)) (dCons (dTup dNil) (dCons (dC (.str "a")) (dCons (dTup (dCons (dC (.str "a")) (dCons (dTup (dCons (dC (.str "a")) dNil)) dNil))) (dCons (dTup (dCons (dC (.str "f")) (dCons (dTup (dCons (dC (.str "a")) dNil)) dNil))) (dCons (dLst (dCons (dC (.str "a")) dNil)) (dCons (dTup (dCons (dC (.str "d")) dNil)) (dCons (dTup (dCons (dC (.str "s")) (dCons (dLst (dCons (dC (.str "a")) dNil)) dNil))) (dCons (dTup (dCons (dC (.str "s")) (dCons (dC (.str "a")) dNil))) (dCons (dTup (dCons (dC (.str "?")) (dCons (dC (.int 0)) (dCons (dC (.int 0)) dNil)))) dNil))))))))))))) (u__law_no_tree_1 Γ ex))
theorem d__law_no_tree {P : Program} {w : World} {Γ : Gn} {base : Heap} {T : List (Addr × Str)} {f : Addr} {cdv : Value} {A : Around} {outer : List PySem.Env} {s : Shared} {H : Hp} {E : XK} {ex : DXE} (F : Fx Γ w)  (c__law_any : CalG P w Γ.K Γ.mg base T false 2 "_law_any" (sp__law_any Γ)) (c__law_full : CalG P w Γ.K Γ.mg base T false 3 "_law_full" (sp__law_full Γ)) (c__law_chain : CalG P w Γ.K Γ.mg base T false 3 "_law_chain" (sp__law_chain Γ)) (C : Ct (bodyCx P w Γ.K Γ.mg base N__law_no_tree "_law_no_tree" (defScope st__law_no_tree) f cdv A outer s H E) ⟨T, H⟩ false 3 ex) :
    PDSs (bodyCx P w Γ.K Γ.mg base N__law_no_tree "_law_no_tree" (defScope st__law_no_tree) f cdv A outer s H E) ⟨T, H⟩ (defBody st__law_no_tree) (t__law_no_tree Γ ex) := by
  exact (pdss_cons (pds_set 1 C.nd (pd_lst (pda_cons pd_non (pda_cons pd_int (pda_cons (pd_tup pda_nil) (pda_cons pd_str (pda_cons (pd_tup (pda_cons pd_str (pda_cons (pd_tup (pda_cons pd_str pda_nil)) pda_nil))) (pda_cons (pd_tup (pda_cons pd_str (pda_cons (pd_tup (pda_cons pd_str pda_nil)) pda_nil))) (pda_cons (pd_lst (pda_cons pd_str pda_nil)) (pda_cons (pd_tup (pda_cons pd_str pda_nil)) (pda_cons (pd_tup (pda_cons pd_str (pda_cons (pd_lst (pda_cons pd_str pda_nil)) pda_nil))) (pda_cons (pd_tup (pda_cons pd_str (pda_cons pd_str pda_nil))) (pda_cons (pd_tup (pda_cons pd_str (pda_cons pd_int (pda_cons pd_int pda_nil)))) pda_nil))))))))))))) (pdss_cons (pds_set 1 C.nd (pd_op opd_add (pd_nm 1) (pd_lst (pda_cons (pd_tup (pda_cons pd_str pda_nil)) (pda_cons (pd_tup (pda_cons pd_str pda_nil)) (pda_cons (pd_tup (pda_cons pd_str (pda_cons (pd_tup (pda_cons pd_str pda_nil)) (pda_cons (pd_tup (pda_cons pd_str pda_nil)) pda_nil)))) (pda_cons (pd_tup (pda_cons (pd_tup (pda_cons pd_str pda_nil)) pda_nil)) (pda_cons (pd_tup (pda_cons pd_str (pda_cons pd_non pda_nil))) pda_nil)))))))) (pdss_one (pds_ret (pd_call C.toCe c__law_any (by decide) (fun z => nomatch z) (pda_cons (pd_nm 0) (pda_cons (pd_op opd_add (pd_nm 1) (pd_lst (pda_cons (pd_call C.toCe c__law_chain (by decide) (fun z => nomatch z) (pda_cons (pd_nm 0) (pda_cons pd_int pda_nil))) (pda_cons (pd_call C.toCe c__law_full (by decide) (fun z => nomatch z) (pda_cons (pd_nm 0) (pda_cons pd_int pda_nil))) pda_nil)))) pda_nil)))))))
/-! ### _law_flag -/
abbrev st__law_flag : Stmt := top 40
abbrev N__law_flag : List Str := ["told", "due"]
abbrev ps__law_flag : List Str := ["told", "due"]
theorem sc__law_flag : FnScope N__law_flag ps__law_flag (defScope st__law_flag) := ⟨rfl, rfl, rfl, by decide +kernel, rfl, by decide +kernel, by decide +kernel⟩
def t__law_flag (Γ : Gn) (ex : DXE) : DS := (sRet (dIf (dB (dVar 1)) (dOp (oIs false) (dVar 0) (dC (.bl true))) (dOp (oIs false) (dVar 0) (dC (.bl false)))))
theorem d__law_flag {P : Program} {w : World} {Γ : Gn} {base : Heap} {T : List (Addr × Str)} {f : Addr} {cdv : Value} {A : Around} {outer : List PySem.Env} {s : Shared} {H : Hp} {E : XK} {ex : DXE} (F : Fx Γ w) (C : Ct (bodyCx P w Γ.K Γ.mg base N__law_flag "_law_flag" (defScope st__law_flag) f cdv A outer s H E) ⟨T, H⟩ false 0 ex) :
    PDSs (bodyCx P w Γ.K Γ.mg base N__law_flag "_law_flag" (defScope st__law_flag) f cdv A outer s H E) ⟨T, H⟩ (defBody st__law_flag) (t__law_flag Γ ex) := by
  exact (pdss_one (pds_ret (pd_ifExp (pdt_val (pd_nm 1)) (pd_cmp opd_is (pd_nm 0) pd_bl (nomark _)) (pd_cmp opd_is (pd_nm 0) pd_bl (nomark _)))))
abbrev st__law_word : Stmt := top 41
theorem sc__law_word : FnScope ["call"] ["call"] (defScope st__law_word) := ⟨rfl, rfl, rfl, by decide +kernel, rfl, by decide +kernel, by decide +kernel⟩
/-- _law_word(lambda: body) -/
theorem pd_word {P : Program} {w : World} {Γ : Gn} {base : Heap} {T : List (Addr × Str)} {f : Addr} {cdv : Value} {A : Around} {outer : List PySem.Env} {s : Shared} {H : Hp} {E : XK} {ex : DXE} {gW c P' : Addr} {fdW : FuncData} {N : List Str} {qual : Str} {sc : Scope} {gb : Bool} {j k : Nat}
    {params : Arguments} {body : Expr} {scope : Scope} {dt : DXE → DE} {p lpos pos : Pos}
    (FW : FunD Γ.K "_law_word" "_law_word" (defArgs st__law_word) (defBody st__law_word) (defScope st__law_word) [] [] gW fdW) (hW : Γ.mg "_law_word" = some (.ref gW)) (F : Fx Γ w)
    (LF : LamF (bodyCx P w Γ.K Γ.mg base N qual sc f cdv A outer s H E) ⟨T, H⟩ c P') (C : Ct (bodyCx P w Γ.K Γ.mg base N qual sc f cdv A outer s H E) ⟨T, H⟩ gb j ex) (hkj : k + 2 ≤ j)
    (hbody : ∀ (A' : Around) (outer' : List PySem.Env) (s' : Shared) (H' : Hp) (E' : XK) (f' c' : Addr) (H0 : Hp) (ex' : DXE), Ct (LamX.lamCx (bodyCx P w Γ.K Γ.mg base N qual sc f cdv A outer s H E) A' outer' s' H' E' scope f' c') ⟨T, H0⟩ false k ex' →
      PD (LamX.lamCx (bodyCx P w Γ.K Γ.mg base N qual sc f cdv A outer s H E) A' outer' s' H' E' scope f' c') ⟨T, H0⟩ body (dt ex'))
    (hg : Gl (bodyCx P w Γ.K Γ.mg base N qual sc f cdv A outer s H E) "_law_word" := by rfl) (L : LamX.LamS sc scope := by exact LamX.lamS_by (by rfl)) (hdef : defaultsOf params (bodyCx P w Γ.K Γ.mg base N qual sc f cdv A outer s H E).env = ([], []) := by rfl)
    (hbind : ∀ (q : Str) (cl : List (Str × Addr)) (pm cv ctv : Value), bindArgs (PySem.W.kla_fn "<lambda>" q params body scope cl pm cv ctv) ⟨[], []⟩ = pure [] := by exact fun _ _ _ _ _ => rfl) :
    PD (bodyCx P w Γ.K Γ.mg base N qual sc f cdv A outer s H E) ⟨T, H⟩ (.Call (.Name "_law_word" p) [.Lambda params body scope lpos] [] pos) (dWord Γ.K Γ.hs Γ.ret dt) := by
  have hb : L2.Binds Γ.K fdW ["call"] [] := FW.bindsN fun _ _ _ _ _ _ us hl => match us, hl with | [_], _ => rfl
  obtain ⟨oc, od, dV, kV, doc, pm, an, cdw, ct, osl, rfl, lk, hcd, _, _⟩ := FW.ex
  refine pd_lamword C LF hW FW.kp lk hcd hb sc__law_word ?_ hkj hbody hg rfl (by exact .inl rfl) L hdef hbind
  exact word_gives rfl rfl rfl F.x_NoType.gC F.x_NoTree.gC F.g_Tell (by decide) (by decide) (by decide) (fun _ => rfl) (fun _ _ => rfl)

/-! ### _law_are_trees_right -/
abbrev st__law_are_trees_right : Stmt := top 42
abbrev N__law_are_trees_right : List Str := ["hand", "sort", "turn", "some", "tree", "due"]
abbrev ps__law_are_trees_right : List Str := ["hand", "sort"]
theorem sc__law_are_trees_right : FnScope N__law_are_trees_right ps__law_are_trees_right (defScope st__law_are_trees_right) := ⟨rfl, rfl, rfl, by decide +kernel, rfl, by decide +kernel, by decide +kernel⟩
def u__law_are_trees_right_1_2 (Γ : Gn) (ex : DXE) : DS := (sIf (dNot (dB (dCall (sp__law_flag Γ) ex (dCons (dCall (sp_is_of Γ) ex (dCons (dCall (sp_type_other Γ) ex (dCons (dVar 1) dNil)) (dCons (dVar 4) dNil))) (dCons (dOp (oIn true) (dVar 5) (dOp oIx (dVar 1) (dC (.int 2)))) dNil))))) (sRet (dC (.bl false))) sNext)
def u__law_are_trees_right_1_1 (Γ : Gn) (ex : DXE) : DS := (sSeq (sIf (dOr (dB (dOp (oEqB true) (dCB nRepr (dCons (dCall (sp_number_of Γ) ex (dCons (dVar 1) (dCons (dVar 4) dNil))) dNil)) (dCB nRepr (dCons (dVar 5) dNil)))) (dNot (dB (dCall (sp__law_flag Γ) ex (dCons (dCall (sp_is_of Γ) ex (dCons (dVar 1) (dCons (dVar 4) dNil))) (dCons (dOp (oIn false) (dVar 5) (dOp oIx (dVar 1) (dC (.int 2)))) dNil)))))) (sRet (dC (.bl false))) sNext) (u__law_are_trees_right_1_2 Γ ex))
def b__law_are_trees_right_1 (Γ : Gn) (ex : DXE) : DS := (sSeq (sSet 5 (dCall (sp__law_number Γ) ex (dCons (dVar 1) (dCons (dVar 4) dNil)))) (u__law_are_trees_right_1_1 Γ ex))
def u__law_are_trees_right_2 (Γ : Gn) (ex : DXE) : DS := (sRet (dC (.bl true)))
def u__law_are_trees_right_1 (Γ : Gn) (ex : DXE) : DS := (sSeq (sFor (iLstD (dOp oAdd (dVar 3) (dLst (dCons (dCall (sp__law_chain Γ) ex (dCons (dVar 0) (dCons (dOp oAdd (dC (.int 1)) (dCall (sp__law_draw Γ) ex (dCons (dVar 0) (dCons (dC (.int 40)) dNil)))) dNil))) (dCons (dCall (sp__law_full Γ) ex (dCons (dVar 0) (dCons (dOp oAdd (dC (.int 1)) (dCall (sp__law_draw Γ) ex (dCons (dVar 0) (dCons (dC (.int 8)) dNil)))) dNil))) dNil))))) (gNm 4) (b__law_are_trees_right_1 Γ ex)) (u__law_are_trees_right_2 Γ ex))
def t__law_are_trees_right (Γ : Gn) (ex : DXE) : DS := (sSeq (sSet 3 (dLc (iRng1D (dCons (dC (.int 4)) dNil)) (.one 2) tYesD (dCall (sp__law_tree Γ) noX (dCons (dVar 0) (dCons (dCall (sp__law_draw Γ) noX (dCons (dVar 0) (dCons (dC (.int 4)) dNil))) dNil))) [2])) (u__law_are_trees_right_1 Γ ex))
theorem d__law_are_trees_right {P : Program} {w : World} {Γ : Gn} {base : Heap} {T : List (Addr × Str)} {f : Addr} {cdv : Value} {A : Around} {outer : List PySem.Env} {s : Shared} {H : Hp} {E : XK} {ex : DXE} (F : Fx Γ w)  (c__law_tree : CalG P w Γ.K Γ.mg base T false 7 "_law_tree" (sp__law_tree Γ)) (c__law_draw : CalG P w Γ.K Γ.mg base T false 1 "_law_draw" (sp__law_draw Γ)) (c__law_full : CalG P w Γ.K Γ.mg base T false 3 "_law_full" (sp__law_full Γ)) (c__law_chain : CalG P w Γ.K Γ.mg base T false 3 "_law_chain" (sp__law_chain Γ)) (c__law_number : CalG P w Γ.K Γ.mg base T false 42 "_law_number" (sp__law_number Γ)) (c__law_flag : CalG P w Γ.K Γ.mg base T false 1 "_law_flag" (sp__law_flag Γ)) (c_is_of : CalG P w Γ.K Γ.mg base T false 6 "is_of" (sp_is_of Γ)) (c_number_of : CalG P w Γ.K Γ.mg base T false 5 "number_of" (sp_number_of Γ)) (c_type_other : CalG P w Γ.K Γ.mg base T false 5 "type_other" (sp_type_other Γ)) (C : Ct (bodyCx P w Γ.K Γ.mg base N__law_are_trees_right "_law_are_trees_right" (defScope st__law_are_trees_right) f cdv A outer s H E) ⟨T, H⟩ true 42 ex) :
    PDSs (bodyCx P w Γ.K Γ.mg base N__law_are_trees_right "_law_are_trees_right" (defScope st__law_are_trees_right) f cdv A outer s H E) ⟨T, H⟩ (defBody st__law_are_trees_right) (t__law_are_trees_right Γ ex) := by
  exact (pdss_cons (pds_lc (ct := (.one 2)) 3 C.calm C.nd rfl rfl (sw_true rfl rfl rfl (by decide +kernel)) (pdi_rng1 F.f_range (pda_cons pd_int pda_nil)) (blkOk_by (N := N__law_are_trees_right) (sc := defScope st__law_are_trees_right) (own := [("turn", 2)]) (by decide +kernel)) (by decide) (fun _ _ _ _ _ => pg_name C.nd rfl (Or.inl rfl)) (fun _ _ _ _ _ => ptd_nil) (fun _ _ _ _ _ => (pd_call (C.toCe.blk _ _ _ _ _) c__law_tree (by decide) (fun z => nomatch z) (pda_cons (pd_nm 0) (pda_cons (pd_call (C.toCe.blk _ _ _ _ _) c__law_draw (by decide) (fun z => nomatch z) (pda_cons (pd_nm 0) (pda_cons pd_int pda_nil))) pda_nil))))) (pdss_cons (pds_for C.hp C.calm (pdi_lst (pd_op opd_add (pd_nm 3) (pd_lst (pda_cons (pd_call C.toCe c__law_chain (by decide) (fun z => nomatch z) (pda_cons (pd_nm 0) (pda_cons (pd_op opd_add pd_int (pd_call C.toCe c__law_draw (by decide) (fun z => nomatch z) (pda_cons (pd_nm 0) (pda_cons pd_int pda_nil)))) pda_nil))) (pda_cons (pd_call C.toCe c__law_full (by decide) (fun z => nomatch z) (pda_cons (pd_nm 0) (pda_cons (pd_op opd_add pd_int (pd_call C.toCe c__law_draw (by decide) (fun z => nomatch z) (pda_cons (pd_nm 0) (pda_cons pd_int pda_nil)))) pda_nil))) pda_nil))))) (pdg_nm 4 C.nd) (pdss_cons (pds_set 5 C.nd (pd_call C.toCe c__law_number (by decide) (fun z => nomatch z) (pda_cons (pd_nm 1) (pda_cons (pd_nm 4) pda_nil)))) (pdss_cons (pds_if (PDW.pdt (pdw_or (pdt_cmp (opd_ne C.un) (pd_callB (cd_repr (C.gd rfl) C.un) F.f_repr bt_repr (pda_cons (pd_call C.toCe c_number_of (by decide) (fun z => nomatch z) (pda_cons (pd_nm 1) (pda_cons (pd_nm 4) pda_nil))) pda_nil)) (pd_callB (cd_repr (C.gd rfl) C.un) F.f_repr bt_repr (pda_cons (pd_nm 5) pda_nil)) (nomark _)) (pdw_or1 (pdt_not (pdt_val (pd_call C.toCe c__law_flag (by decide) (fun z => nomatch z) (pda_cons (pd_call C.toCe c_is_of (by decide) (fun z => nomatch z) (pda_cons (pd_nm 1) (pda_cons (pd_nm 4) pda_nil))) (pda_cons (pd_cmp (opd_in C.un1) (pd_nm 5) (pd_ix (ixd C.un1) (pd_nm 1) pd_int) (by with_unfolding_all rfl)) pda_nil)))))))) (pdss_one (pds_ret pd_bl)) pdss_nil) (pdss_one (pds_if (pdt_not (pdt_val (pd_call C.toCe c__law_flag (by decide) (fun z => nomatch z) (pda_cons (pd_call C.toCe c_is_of (by decide) (fun z => nomatch z) (pda_cons (pd_call C.toCe c_type_other (by decide) (fun z => nomatch z) (pda_cons (pd_nm 1) pda_nil)) (pda_cons (pd_nm 4) pda_nil))) (pda_cons (pd_cmp (opd_notIn C.un1) (pd_nm 5) (pd_ix (ixd C.un1) (pd_nm 1) pd_int) (by with_unfolding_all rfl)) pda_nil))))) (pdss_one (pds_ret pd_bl)) pdss_nil))))) (pdss_one (pds_ret pd_bl))))
/-! ### _law_is_other_right -/
abbrev st__law_is_other_right : Stmt := top 43
abbrev N__law_is_other_right : List Str := ["sort", "many", "rules", "good", "ahead", "told", "one", "due"]
abbrev ps__law_is_other_right : List Str := ["sort"]
theorem sc__law_is_other_right : FnScope N__law_is_other_right ps__law_is_other_right (defScope st__law_is_other_right) := ⟨rfl, rfl, rfl, by decide +kernel, rfl, by decide +kernel, by decide +kernel⟩
def u__law_is_other_right_5 (Γ : Gn) (ex : DXE) : DS := (sRet (dAndV (dOp (oEqB false) (dCB nRepr (dCons (dVar 0) dNil)) (dVar 4)) (dOp (oEqB false) (dCB nRepr (dCons (dCall (sp_type_other Γ) ex (dCons (dVar 0) dNil)) dNil)) (dCB nRepr (dCons (dVar 7) dNil)))))
def u__law_is_other_right_4 (Γ : Gn) (ex : DXE) : DS := (sSeq (sAsg (dC .non) (gSub (dOp oIx (dVar 5) (dC (.int 1))) (dC (.str "a")) oSet)) (u__law_is_other_right_5 Γ ex))
def u__law_is_other_right_3 (Γ : Gn) (ex : DXE) : DS := (sSeq (sIf (dOr (dB (dOp (oEqB true) (dCB nRepr (dCons (dVar 5) dNil)) (dCB nRepr (dCons (dVar 7) dNil)))) (dB (dOp (oEqX false) (dCall (sp_type_other Γ) ex (dCons (dVar 5) dNil)) (dVar 0)))) (sRet (dC (.bl false))) sNext) (u__law_is_other_right_4 Γ ex))
def u__law_is_other_right_2 (Γ : Gn) (ex : DXE) : DS := (sSeq (sSet 7 (dTup (dCons (dVar 1) (dCons (dCB nDict (dCons (dCB nSort (dCons (dItems (dVar 2)) dNil)) dNil)) (dCons (dCB nTuple (dCons (dLc (iRng1D (dCons (dVar 1) dNil)) (.one 6) (dB (dOp (oIn true) (dVar 6) (dVar 3))) (dVar 6) [6]) dNil)) dNil))))) (u__law_is_other_right_3 Γ ex))
def u__law_is_other_right_1 (Γ : Gn) (ex : DXE) : DS := (sSeq (sPar 4 5 (dCons (dCB nRepr (dCons (dVar 0) dNil)) (dCons (dCall (sp_type_other Γ) ex (dCons (dVar 0) dNil)) dNil))) (u__law_is_other_right_2 Γ ex))
def t__law_is_other_right (Γ : Gn) (ex : DXE) : DS := (sSeq (sAsg (dVar 0) (gTp 3 (gsCons (gNm 1) (gsCons (gNm 2) (gsCons (gNm 3) gsNil))))) (u__law_is_other_right_1 Γ ex))
theorem d__law_is_other_right {P : Program} {w : World} {Γ : Gn} {base : Heap} {T : List (Addr × Str)} {f : Addr} {cdv : Value} {A : Around} {outer : List PySem.Env} {s : Shared} {H : Hp} {E : XK} {ex : DXE} (F : Fx Γ w)  (c_type_other : CalG P w Γ.K Γ.mg base T false 5 "type_other" (sp_type_other Γ)) (C : Ct (bodyCx P w Γ.K Γ.mg base N__law_is_other_right "_law_is_other_right" (defScope st__law_is_other_right) f cdv A outer s H E) ⟨T, H⟩ true 5 ex) :
    PDSs (bodyCx P w Γ.K Γ.mg base N__law_is_other_right "_law_is_other_right" (defScope st__law_is_other_right) f cdv A outer s H E) ⟨T, H⟩ (defBody st__law_is_other_right) (t__law_is_other_right Γ ex) := by
  exact (pdss_cons (pds_asg (pd_nm 0) (pdg_tup C.calm (pdgs_cons (pdg_nm 1 C.nd) (pdgs_cons (pdg_nm 2 C.nd) (pdgs_cons (pdg_nm 3 C.nd) pdgs_nil))))) (pdss_cons (pds_par 4 5 C.calm C.nd (pda_cons (pd_callB (cd_repr (C.gd rfl) C.un) F.f_repr bt_repr (pda_cons (pd_nm 0) pda_nil)) (pda_cons (pd_call C.toCe c_type_other (by decide) (fun z => nomatch z) (pda_cons (pd_nm 0) pda_nil)) pda_nil))) (pdss_cons (pds_set 7 C.nd (pd_tup (pda_cons (pd_nm 1) (pda_cons (pd_callTy (cd_dict C.calm) F.f_dict bt_dict (pda_cons (pd_callB cd_sorted F.f_sorted bt_sorted (pda_cons (pd_items C.calm F.f_list (pd_nm 2)) pda_nil)) pda_nil)) (pda_cons (pd_callTy cd_tuple F.f_tuple bt_tuple (pda_cons (pd_lc (ct := (.one 6)) C.calm C.nd (pdi_rng1 F.f_range (pda_cons (pd_nm 1) pda_nil)) (blkOk_by (N := N__law_is_other_right) (sc := defScope st__law_is_other_right) (own := [("one", 6)]) (by decide +kernel)) (by decide) (fun _ _ _ _ _ => pg_name C.nd rfl (Or.inl rfl)) (fun _ _ _ _ _ => ptd_one (pdt_cmp (opd_notIn C.un1) (pd_nm 6) (pd_nm 3) (by with_unfolding_all rfl))) (fun _ _ _ _ _ => (pd_nm 6))) pda_nil)) pda_nil))))) (pdss_cons (pds_if (PDW.pdt (pdw_or (pdt_cmp (opd_ne C.un) (pd_callB (cd_repr (C.gd rfl) C.un) F.f_repr bt_repr (pda_cons (pd_nm 5) pda_nil)) (pd_callB (cd_repr (C.gd rfl) C.un) F.f_repr bt_repr (pda_cons (pd_nm 7) pda_nil)) (nomark _)) (pdw_or1 (pdt_cmp (opd_neX C.un) (pd_call C.toCe c_type_other (by decide) (fun z => nomatch z) (pda_cons (pd_nm 5) pda_nil)) (pd_nm 0) (nomark _))))) (pdss_one (pds_ret pd_bl)) pdss_nil) (pdss_cons (pds_asg pd_non (pdg_sub (pd_ix (ixd C.un1) (pd_nm 5) pd_int) pd_str (setd C.un1))) (pdss_one (pds_ret (pd_and (pd_cmp (opd_eq C.un) (pd_callB (cd_repr (C.gd rfl) C.un) F.f_repr bt_repr (pda_cons (pd_nm 0) pda_nil)) (pd_nm 4) (nomark _)) (pd_one (pd_cmp (opd_eq C.un) (pd_callB (cd_repr (C.gd rfl) C.un) F.f_repr bt_repr (pda_cons (pd_call C.toCe c_type_other (by decide) (fun z => nomatch z) (pda_cons (pd_nm 0) pda_nil)) pda_nil)) (pd_callB (cd_repr (C.gd rfl) C.un) F.f_repr bt_repr (pda_cons (pd_nm 7) pda_nil)) (nomark _)))))))))))
/-! ### _law_is_right -/
abbrev st__law_is_right : Stmt := top 44
abbrev N__law_is_right : List Str := ["hand", "sort", "turn", "wrong", "none", "words"]
abbrev ps__law_is_right : List Str := ["hand"]
theorem sc__law_is_right : FnScope N__law_is_right ps__law_is_right (defScope st__law_is_right) := ⟨rfl, rfl, rfl, by decide +kernel, rfl, by decide +kernel, by decide +kernel⟩
def u__law_is_right_2_1 (Γ : Gn) (ex : DXE) : DS := (sIf (dOr (dB (dOp (oIs true) (dCall (sp_is_type Γ) ex (dCons (dVar 3) dNil)) (dC (.bl false)))) (dB (dOp (oEqB true) (dWord Γ.K Γ.hs Γ.ret fun ex => (dCall (sp_type_other Γ) ex (dCons (dVar 3) dNil))) (dC (.str "type"))))) (sRet (dC (.bl false))) sNext)
def b__law_is_right_2 (Γ : Gn) (ex : DXE) : DS := (sSeq (sSet 3 (dCall (sp__law_wrong Γ) ex (dCons (dVar 0) (dCons (dVar 1) dNil)))) (u__law_is_right_2_1 Γ ex))
def u__law_is_right_7 (Γ : Gn) (ex : DXE) : DS := (sRet (dOp (oEqB false) (dVar 5) (dLst (dCons (dC (.str "type")) (dCons (dC (.str "tree")) (dCons (dC (.str "type")) (dCons (dC (.str "tree")) dNil)))))))
def u__law_is_right_6 (Γ : Gn) (ex : DXE) : DS := (sSeq (sDrop (dBM isLst mAppend (dVar 5) (dCons (dWord Γ.K Γ.hs Γ.ret fun ex => (dCall (sp_is_of Γ) ex (dCons (dVar 1) (dCons (dVar 4) dNil)))) dNil))) (u__law_is_right_7 Γ ex))
def u__law_is_right_5 (Γ : Gn) (ex : DXE) : DS := (sSeq (sDrop (dBM isLst mAppend (dVar 5) (dCons (dWord Γ.K Γ.hs Γ.ret fun ex => (dCall (sp_is_of Γ) ex (dCons (dVar 3) (dCons (dVar 4) dNil)))) dNil))) (u__law_is_right_6 Γ ex))
def u__law_is_right_4 (Γ : Gn) (ex : DXE) : DS := (sSeq (sSet 5 (dLst (dCons (dWord Γ.K Γ.hs Γ.ret fun ex => (dCall (sp_number_of Γ) ex (dCons (dVar 3) (dCons (dVar 4) dNil)))) (dCons (dCall (sp__law_word_of Γ) ex (dCons (dVar 1) (dCons (dVar 4) dNil))) dNil)))) (u__law_is_right_5 Γ ex))
def u__law_is_right_3 (Γ : Gn) (ex : DXE) : DS := (sSeq (sSet 4 (dCall (sp__law_no_tree Γ) ex (dCons (dVar 0) dNil))) (u__law_is_right_4 Γ ex))
def u__law_is_right_2 (Γ : Gn) (ex : DXE) : DS := (sSeq (sFor (iRng1D (dCons (dC (.int 4)) dNil)) (gNm 2) (b__law_is_right_2 Γ ex)) (u__law_is_right_3 Γ ex))
def u__law_is_right_1 (Γ : Gn) (ex : DXE) : DS := (sSeq (sIf (dOr (dB (dOp (oIs true) (dCall (sp_is_type Γ) ex (dCons (dVar 1) dNil)) (dC (.bl true)))) (dOr (dNot (dB (dCall (sp__law_are_trees_right Γ) ex (dCons (dVar 0) (dCons (dVar 1) dNil))))) (dNot (dB (dCall (sp__law_is_other_right Γ) ex (dCons (dVar 1) dNil)))))) (sRet (dC (.bl false))) sNext) (u__law_is_right_2 Γ ex))
def t__law_is_right (Γ : Gn) (ex : DXE) : DS := (sSeq (sSet 1 (dCall (sp__law_sort Γ) ex (dCons (dVar 0) dNil))) (u__law_is_right_1 Γ ex))
theorem d__law_is_right {P : Program} {w : World} {Γ : Gn} {base : Heap} {T : List (Addr × Str)} {f : Addr} {cdv : Value} {A : Around} {outer : List PySem.Env} {s : Shared} {H : Hp} {E : XK} {ex : DXE} (F : Fx Γ w)  (c__law_sort : CalG P w Γ.K Γ.mg base T false 2 "_law_sort" (sp__law_sort Γ)) (c__law_is_other_right : CalG P w Γ.K Γ.mg base T true 6 "_law_is_other_right" (sp__law_is_other_right Γ)) (c__law_are_trees_right : CalG P w Γ.K Γ.mg base T true 43 "_law_are_trees_right" (sp__law_are_trees_right Γ)) (c_is_type : CalG P w Γ.K Γ.mg base T false 3 "is_type" (sp_is_type Γ)) (c__law_wrong : CalG P w Γ.K Γ.mg base T false 3 "_law_wrong" (sp__law_wrong Γ)) (c_type_other : CalG P w Γ.K Γ.mg base T false 5 "type_other" (sp_type_other Γ)) (c__law_no_tree : CalG P w Γ.K Γ.mg base T false 4 "_law_no_tree" (sp__law_no_tree Γ)) (c__law_word_of : CalG P w Γ.K Γ.mg base T false 9 "_law_word_of" (sp__law_word_of Γ)) (c_number_of : CalG P w Γ.K Γ.mg base T false 5 "number_of" (sp_number_of Γ)) (c_is_of : CalG P w Γ.K Γ.mg base T false 6 "is_of" (sp_is_of Γ)) {fdW : FuncData} {gWA c P' : Addr} (FW : FunD Γ.K "_law_word" "_law_word" (defArgs st__law_word) (defBody st__law_word) (defScope st__law_word) [] [] gWA fdW) (gW : Γ.mg "_law_word" = some (.ref gWA)) (LF : LamF (bodyCx P w Γ.K Γ.mg base N__law_is_right "_law_is_right" (defScope st__law_is_right) f cdv A outer s H E) ⟨T, H⟩ c P') (C : Ct (bodyCx P w Γ.K Γ.mg base N__law_is_right "_law_is_right" (defScope st__law_is_right) f cdv A outer s H E) ⟨T, H⟩ true 43 ex) :
    PDSs (bodyCx P w Γ.K Γ.mg base N__law_is_right "_law_is_right" (defScope st__law_is_right) f cdv A outer s H E) ⟨T, H⟩ (defBody st__law_is_right) (t__law_is_right Γ ex) := by
  exact (pdss_cons (pds_set 1 C.nd (pd_call C.toCe c__law_sort (by decide) (fun z => nomatch z) (pda_cons (pd_nm 0) pda_nil))) (pdss_cons (pds_if (PDW.pdt (pdw_or (pdt_cmp opd_isNot (pd_call C.toCe c_is_type (by decide) (fun z => nomatch z) (pda_cons (pd_nm 1) pda_nil)) pd_bl (nomark _)) (pdw_or (pdt_not (pdt_val (pd_call C.toCe c__law_are_trees_right (by decide) (fun z => z) (pda_cons (pd_nm 0) (pda_cons (pd_nm 1) pda_nil))))) (pdw_or1 (pdt_not (pdt_val (pd_call C.toCe c__law_is_other_right (by decide) (fun z => z) (pda_cons (pd_nm 1) pda_nil)))))))) (pdss_one (pds_ret pd_bl)) pdss_nil) (pdss_cons (pds_for C.hp C.calm (pdi_rng1 F.f_range (pda_cons pd_int pda_nil)) (pdg_nm 2 C.nd) (pdss_cons (pds_set 3 C.nd (pd_call C.toCe c__law_wrong (by decide) (fun z => nomatch z) (pda_cons (pd_nm 0) (pda_cons (pd_nm 1) pda_nil)))) (pdss_one (pds_if (PDW.pdt (pdw_or (pdt_cmp opd_isNot (pd_call C.toCe c_is_type (by decide) (fun z => nomatch z) (pda_cons (pd_nm 3) pda_nil)) pd_bl (nomark _)) (pdw_or1 (pdt_cmp (opd_ne C.un) (pd_word FW gW F LF C (k := 6) (by decide) (fun A outer s H E f c' H0 ex B => (pd_call B.toCe c_type_other (by decide) (fun z => nomatch z) (pda_cons (pd_nm 3) pda_nil)))) pd_str (nomark _))))) (pdss_one (pds_ret pd_bl)) pdss_nil)))) (pdss_cons (pds_set 4 C.nd (pd_call C.toCe c__law_no_tree (by decide) (fun z => nomatch z) (pda_cons (pd_nm 0) pda_nil))) (pdss_cons (pds_set 5 C.nd (pd_lst (pda_cons (pd_word FW gW F LF C (k := 6) (by decide) (fun A outer s H E f c' H0 ex B => (pd_call B.toCe c_number_of (by decide) (fun z => nomatch z) (pda_cons (pd_nm 3) (pda_cons (pd_nm 4) pda_nil))))) (pda_cons (pd_call C.toCe c__law_word_of (by decide) (fun z => nomatch z) (pda_cons (pd_nm 1) (pda_cons (pd_nm 4) pda_nil))) pda_nil)))) (pdss_cons (pds_expr (pd_bm PySem.F.plainAttrs_list PySem.F.slot_list_append PySem.F.type_list_append mtd_append (pd_nm 5) (pda_cons (pd_word FW gW F LF C (k := 6) (by decide) (fun A outer s H E f c' H0 ex B => (pd_call B.toCe c_is_of (by decide) (fun z => nomatch z) (pda_cons (pd_nm 3) (pda_cons (pd_nm 4) pda_nil))))) pda_nil))) (pdss_cons (pds_expr (pd_bm PySem.F.plainAttrs_list PySem.F.slot_list_append PySem.F.type_list_append mtd_append (pd_nm 5) (pda_cons (pd_word FW gW F LF C (k := 6) (by decide) (fun A outer s H E f c' H0 ex B => (pd_call B.toCe c_is_of (by decide) (fun z => nomatch z) (pda_cons (pd_nm 1) (pda_cons (pd_nm 4) pda_nil))))) pda_nil))) (pdss_one (pds_ret (pd_cmp (opd_eq C.un) (pd_nm 5) (pd_lst (pda_cons pd_str (pda_cons pd_str (pda_cons pd_str (pda_cons pd_str pda_nil))))) (nomark _)))))))))))
/-! ### _law_word_of -/
abbrev st__law_word_of : Stmt := top 45
abbrev N__law_word_of : List Str := ["sort", "none"]
abbrev ps__law_word_of : List Str := ["sort", "none"]
theorem sc__law_word_of : FnScope N__law_word_of ps__law_word_of (defScope st__law_word_of) := ⟨rfl, rfl, rfl, by decide +kernel, rfl, by decide +kernel, by decide +kernel⟩
def t__law_word_of (Γ : Gn) (ex : DXE) : DS := (sRet (dWord Γ.K Γ.hs Γ.ret fun ex => (dCall (sp_number_of Γ) ex (dCons (dVar 0) (dCons (dVar 1) dNil)))))
theorem d__law_word_of {P : Program} {w : World} {Γ : Gn} {base : Heap} {T : List (Addr × Str)} {f : Addr} {cdv : Value} {A : Around} {outer : List PySem.Env} {s : Shared} {H : Hp} {E : XK} {ex : DXE} (F : Fx Γ w)  (c_number_of : CalG P w Γ.K Γ.mg base T false 5 "number_of" (sp_number_of Γ)) {fdW : FuncData} {gWA c P' : Addr} (FW : FunD Γ.K "_law_word" "_law_word" (defArgs st__law_word) (defBody st__law_word) (defScope st__law_word) [] [] gWA fdW) (gW : Γ.mg "_law_word" = some (.ref gWA)) (LF : LamF (bodyCx P w Γ.K Γ.mg base N__law_word_of "_law_word_of" (defScope st__law_word_of) f cdv A outer s H E) ⟨T, H⟩ c P') (C : Ct (bodyCx P w Γ.K Γ.mg base N__law_word_of "_law_word_of" (defScope st__law_word_of) f cdv A outer s H E) ⟨T, H⟩ false 8 ex) :
    PDSs (bodyCx P w Γ.K Γ.mg base N__law_word_of "_law_word_of" (defScope st__law_word_of) f cdv A outer s H E) ⟨T, H⟩ (defBody st__law_word_of) (t__law_word_of Γ ex) := by
  exact (pdss_one (pds_ret (pd_word FW gW F LF C (k := 6) (by decide) (fun A outer s H E f c' H0 ex B => (pd_call B.toCe c_number_of (by decide) (fun z => nomatch z) (pda_cons (pd_nm 0) (pda_cons (pd_nm 1) pda_nil)))))))
/-! ### law -/
abbrev st_law : Stmt := top 46
abbrev N_law : List Str := ["script", "hand", "rules", "turn"]
abbrev ps_law : List Str := ["script"]
theorem sc_law : FnScope N_law ps_law (defScope st_law) := ⟨rfl, rfl, rfl, by decide +kernel, rfl, by decide +kernel, by decide +kernel⟩
def u_law_4 (Γ : Gn) (ex : DXE) : DS := (sRet (dCB (nAll fun bs => bs.all id) (dCons (dLc (iRng1D (dCons (dC (.int 2)) dNil)) (.one 3) tYesD (dCall (sp__law_is_right Γ) noX (dCons (dVar 1) dNil)) [3]) dNil)))
def u_law_3 (Γ : Gn) (ex : DXE) : DS := (sSeq (sIf (dOr (dB (dOp (oEqB true) (dCall (sp_number_of Γ) ex (dCons (dTup (dCons (dC (.int 2)) (dCons (dVar 2) (dCons (dTup (dCons (dC (.int 1)) dNil)) dNil)))) (dCons (dTup (dCons (dC (.str "f")) (dCons (dTup (dCons (dC (.str "b")) dNil)) (dCons (dTup (dCons (dC (.str "s")) (dCons (dTup (dCons (dC (.str "b")) dNil)) dNil))) dNil)))) dNil))) (dC (.int 1)))) (dB (dOp (oIs true) (dCall (sp_is_of Γ) ex (dCons (dTup (dCons (dC (.int 2)) (dCons (dVar 2) (dCons (dTup dNil) dNil)))) (dCons (dTup (dCons (dC (.str "b")) dNil)) dNil))) (dC (.bl false))))) (sRet (dC (.bl false))) sNext) (u_law_4 Γ ex))
def u_law_2 (Γ : Gn) (ex : DXE) : DS := (sSeq (sAsg (dTup (dCons (dC (.int 0)) (dCons (dC (.int 1)) dNil))) (gSub (dVar 2) (dC (.str "t")) oSet)) (u_law_3 Γ ex))
def u_law_1 (Γ : Gn) (ex : DXE) : DS := (sSeq (sSet 2 (dDispE (("a", (dTup (dCons (dC (.int 0)) dNil))) :: (("b", (dTup (dCons (dC (.int 1)) dNil))) :: (("c", (dTup (dCons (dC (.int 0)) dNil))) :: (("f", (dTup (dCons (dC (.int 0)) (dCons (dC (.int 1)) (dCons (dC (.int 1)) (dCons (dC (.int 0)) dNil)))))) :: (("g", (dOp oMul (dTup (dCons (dC (.int 0)) dNil)) (dC (.int 4)))) :: (("h", (dOp oMul (dTup (dCons (dC (.int 1)) dNil)) (dC (.int 8)))) :: (("s", (dTup (dCons (dC (.int 1)) (dCons (dC (.int 0)) dNil)))) :: []))))))))) (u_law_2 Γ ex))
def t_law (Γ : Gn) (ex : DXE) : DS := (sSeq (sSet 1 (dCall (sp__law_hand Γ) ex (dCons (dVar 0) dNil))) (u_law_1 Γ ex))
theorem d_law {P : Program} {w : World} {Γ : Gn} {base : Heap} {T : List (Addr × Str)} {f : Addr} {cdv : Value} {A : Around} {outer : List PySem.Env} {s : Shared} {H : Hp} {E : XK} {ex : DXE} (F : Fx Γ w)  (c__law_hand : CalG P w Γ.K Γ.mg base T false 1 "_law_hand" (sp__law_hand Γ)) (c_is_of : CalG P w Γ.K Γ.mg base T false 6 "is_of" (sp_is_of Γ)) (c_number_of : CalG P w Γ.K Γ.mg base T false 5 "number_of" (sp_number_of Γ)) (c__law_is_right : CalG P w Γ.K Γ.mg base T true 44 "_law_is_right" (sp__law_is_right Γ)) (C : Ct (bodyCx P w Γ.K Γ.mg base N_law "law" (defScope st_law) f cdv A outer s H E) ⟨T, H⟩ true 44 ex) :
    PDSs (bodyCx P w Γ.K Γ.mg base N_law "law" (defScope st_law) f cdv A outer s H E) ⟨T, H⟩ (defBody st_law) (t_law Γ ex) := by
  exact (pdss_cons (pds_set 1 C.nd (pd_call C.toCe c__law_hand (by decide) (fun z => nomatch z) (pda_cons (pd_nm 0) pda_nil))) (pdss_cons (pds_set 2 C.nd (pd_disp (pdps_cons (pd_tup (pda_cons pd_int pda_nil)) (pdps_cons (pd_tup (pda_cons pd_int pda_nil)) (pdps_cons (pd_tup (pda_cons pd_int pda_nil)) (pdps_cons (pd_tup (pda_cons pd_int (pda_cons pd_int (pda_cons pd_int (pda_cons pd_int pda_nil))))) (pdps_cons (pd_op opd_mul (pd_tup (pda_cons pd_int pda_nil)) pd_int) (pdps_cons (pd_op opd_mul (pd_tup (pda_cons pd_int pda_nil)) pd_int) (pdps_cons (pd_tup (pda_cons pd_int (pda_cons pd_int pda_nil))) pdps_nil))))))))) (pdss_cons (pds_asg (pd_tup (pda_cons pd_int (pda_cons pd_int pda_nil))) (pdg_sub (pd_nm 2) pd_str (setd C.un1))) (pdss_cons (pds_if (PDW.pdt (pdw_or (pdt_cmp (opd_ne C.un) (pd_call C.toCe c_number_of (by decide) (fun z => nomatch z) (pda_cons (pd_tup (pda_cons pd_int (pda_cons (pd_nm 2) (pda_cons (pd_tup (pda_cons pd_int pda_nil)) pda_nil)))) (pda_cons (pd_tup (pda_cons pd_str (pda_cons (pd_tup (pda_cons pd_str pda_nil)) (pda_cons (pd_tup (pda_cons pd_str (pda_cons (pd_tup (pda_cons pd_str pda_nil)) pda_nil))) pda_nil)))) pda_nil))) pd_int (nomark _)) (pdw_or1 (pdt_cmp opd_isNot (pd_call C.toCe c_is_of (by decide) (fun z => nomatch z) (pda_cons (pd_tup (pda_cons pd_int (pda_cons (pd_nm 2) (pda_cons (pd_tup pda_nil) pda_nil)))) (pda_cons (pd_tup (pda_cons pd_str pda_nil)) pda_nil))) pd_bl (nomark _))))) (pdss_one (pds_ret pd_bl)) pdss_nil) (pdss_one (pds_ret (pd_callB (cd_all C.calm) F.f_all bt_all (pda_cons (pd_lc (ct := (.one 3)) C.calm C.nd (pdi_rng1 F.f_range (pda_cons pd_int pda_nil)) (blkOk_by (N := N_law) (sc := defScope st_law) (own := [("turn", 3)]) (by decide +kernel)) (by decide) (fun _ _ _ _ _ => pg_name C.nd rfl (Or.inl rfl)) (fun _ _ _ _ _ => ptd_nil) (fun _ _ _ _ _ => (pd_call (C.toCe.blk _ _ _ _ _) c__law_is_right (by decide) (fun z => z) (pda_cons (pd_nm 1) pda_nil)))) pda_nil))))))))
end K73
/-! K3: what the defs' readings give, in plain terms: the small ones. -/
namespace DL
open PySem PySem.Spec L2
/-- THE RULE for a def without defaults -/
theorem cal_of {P : Program} {w : World} {K : PySem.W.Frag} {mg : Str → Option Value} {base : Heap} {T : List (Addr × Str)} {gb : Bool} {k : Nat} {x : Str} {f : Addr} {fd : FuncData} {params : Arguments} {body : List Stmt} {scope : Scope} {N ps : List Str} {sp : DSp}
    (F : FunD K x x params body scope [] [] f fd) (gF : mg x = some (.ref f)) (S : FnScope N ps scope)
    (hb : ∀ (kV doc pm : Value) (an : Option Addr) (cdv ct : Value) (us : List Value), us.length = ps.length → bindArgs (PySem.W.fnOf x x params body scope .none kV doc pm an cdv ct) ⟨us, []⟩ = pure (ps.zip us))
    (len : ∀ ds st q ex, sp ds st q ex → ds.length = ps.length) (t : DXE → DS)
    (hbody : ∀ (cdv : Value) (A : Around) (outer : List PySem.Env) (s : Shared) (H : Hp) (E : XK) (ex : DXE), (∃ oc od dV kV doc pm an ct osl, K.lookup f = some ⟨oc, od, .func (PySem.W.fnOf x x params body scope dV kV doc pm an cdv ct), osl⟩ ∧ PySem.W.codeIn K cdv x = true) →
      Ct (bodyCx P w K mg base N x scope f cdv A outer s H E) ⟨T, H⟩ gb k ex → PDSs (bodyCx P w K mg base N x scope f cdv A outer s H E) ⟨T, H⟩ body (t ex))
    (pure_ : ∀ ds st q ex, sp ds st q ex → t (fun x _ st => ex x st) { nx := fun _ st' => q .non st', rt := q } (dstart N ds) st) : CalG P w K mg base T gb (k + 1) x sp := by
  have bb : L2.Binds K fd ps [] := F.bindsN hb
  obtain ⟨oc, od, dV, kV, doc, pm, an, cdv, ct, osl, rfl, lk, hcd, _, _⟩ := F.ex
  exact ⟨f, _, ps, gF, F.kp, bb, fg_of lk hcd S len t (fun A outer s H E ex C => hbody cdv A outer s H E ex ⟨oc, od, dV, kV, doc, pm, an, ct, osl, lk, hcd⟩ C) pure_⟩
end DL
namespace K73
open PySem PySem.Spec L2 DL
/-- the readings, unfolded -/
theorem ty_of {st : Stt} {d : D} (h : Ty st d) : ∃ t, tyF st d = some t := by
  cases h with
  | lst e => exact ⟨"list", by simp only [tyF, e]⟩
  | dK e _ => exact ⟨"dict", by simp only [tyF, e]⟩
  | _ => exact ⟨_, rfl⟩
/-- isinstance of something known -/
theorem isa_int {st : Stt} {d : D} {t : String} (hd : Ty st d) (h : tyF st d = some t) : isaB t "int" = true ∧ isaB t "bool" = false ∧ isIntD d = true ∨ isaB t "int" = true ∧ isaB t "bool" = true ∧ isIntD d = false ∨ isaB t "int" = false ∧ isIntD d = false := by
  cases hd with
  | lst e => simp only [tyF, e, Option.some.injEq] at h; subst h; exact .inr (.inr ⟨by decide, rfl⟩)
  | dK e _ => simp only [tyF, e, Option.some.injEq] at h; subst h; exact .inr (.inr ⟨by decide, rfl⟩)
  | int => cases h; exact .inl ⟨by decide, by decide, rfl⟩
  | bl => cases h; exact .inr (.inl ⟨by decide, by decide, rfl⟩)
  | _ => cases h; exact .inr (.inr ⟨by decide, rfl⟩)
theorem isa_str {st : Stt} {d : D} {t : String} (hd : Ty st d) (h : tyF st d = some t) : (isaB t "str" = true ∧ ∃ x, d = .str x) ∨ isaB t "str" = false ∧ ∀ x, d ≠ .str x := by
  cases hd with
  | lst e => simp only [tyF, e, Option.some.injEq] at h; subst h; exact .inr ⟨by decide, fun _ z => nomatch z⟩
  | dK e _ => simp only [tyF, e, Option.some.injEq] at h; subst h; exact .inr ⟨by decide, fun _ z => nomatch z⟩
  | str => cases h; exact .inl ⟨by decide, _, rfl⟩
  | _ => cases h; exact .inr ⟨by decide, fun _ z => nomatch z⟩
theorem isa_tup {st : Stt} {d : D} {t : String} (hd : Ty st d) (h : tyF st d = some t) : (isaB t "tuple" = true ∧ ∃ ds, d = .tup ds ∧ ds.length ≤ 1000 ∧ ∀ x ∈ ds, Ty st x) ∨ isaB t "tuple" = false ∧ ∀ x, d ≠ .tup x := by
  cases hd with
  | lst e => simp only [tyF, e, Option.some.injEq] at h; subst h; exact .inr ⟨by decide, fun _ z => nomatch z⟩
  | dK e _ => simp only [tyF, e, Option.some.injEq] at h; subst h; exact .inr ⟨by decide, fun _ z => nomatch z⟩
  | tup hl hh => cases h; exact .inl ⟨by decide, _, rfl, hl, hh⟩
  | _ => cases h; exact .inr ⟨by decide, fun _ z => nomatch z⟩
theorem isa_dict {st : Stt} {d : D} {t : String} (hd : Ty st d) (h : tyF st d = some t) : (isaB t "dict" = true ∧ ∃ a kvs, d = .ref a ∧ st a = some (.dK kvs) ∧ ∀ p ∈ kvs, Ty st p.2) ∨ isaB t "dict" = false ∧ ∀ a kvs, d = .ref a → st a ≠ some (.dK kvs) := by
  cases hd with
  | lst e => simp only [tyF, e, Option.some.injEq] at h; subst h; exact .inr ⟨by decide, fun a kvs z => by cases z; rw [e]; exact fun w => nomatch w⟩
  | dK e hh => simp only [tyF, e, Option.some.injEq] at h; subst h; exact .inl ⟨by decide, _, _, rfl, e, hh⟩
  | _ => cases h; exact .inr ⟨by decide, fun _ _ z => nomatch z⟩
theorem pure_is_integer {Γ : Gn} {ds : List D} {st : Stt} {q : DQ} {ex : DX} (h : sp_is_integer Γ ds st q ex) : t_is_integer Γ (fun x _ st => ex x st) { nx := fun _ st' => q .non st', rt := q } (dstart N_is_integer ds) st := by
  obtain ⟨d, rfl, hd, hq⟩ := h
  show t_is_integer Γ _ _ [some d] st
  unfold t_is_integer
  simp only [sRet, sSeq, sNext, sIf, sDrop, sSet, sAsg, sPar, sPar3, sAug, sRaise, dAndV, dOrV, dNotV, dAnd, dOr, dNot, dB, dIf, dOp, dUn, dCB, dVar, dC, dNil, dCons, dTup, dLst, dChain, dCall, gNm, gTp, gsCons, gsNil, DL.gSub, nIsi, dBM, dBM0, dPart, dNoPart, dSl, dInW, dIxW, dNewK, dNewT, dRevL, dRevT, dDPop1, dItems, dLRg, iTupD, iLstD, iStrD, iEnD, iRng1D, iRng2D, oI2, oNeg, List.getElem?_cons_zero, List.getElem?_cons_succ, List.set_cons_zero, List.set_cons_succ, exists_eq_left', exists_eq_left, exists_and_left, exists_eq', and_assoc, Option.some.injEq, List.cons.injEq, D.ty.injEq, D.bl.injEq, D.int.injEq, D.str.injEq, D.tup.injEq, D.ref.injEq, and_true, true_and]
  obtain ⟨t, ht⟩ := ty_of hd
  refine ⟨by decide, t, ht, ?_⟩
  rcases isa_int hd ht with ⟨h1, h2, h3⟩ | ⟨h1, h2, h3⟩ | ⟨h1, h3⟩
  · rw [h3] at hq
    rw [if_pos h1]
    exact ⟨by decide, t, ht, by rw [h2]; exact hq⟩
  · rw [h3] at hq
    rw [if_pos h1]
    exact ⟨by decide, t, ht, by rw [h2]; exact hq⟩
  · rw [h3] at hq
    rw [if_neg (by rw [h1]; decide)]
    exact hq
theorem pure_is_within {Γ : Gn} {ds : List D} {st : Stt} {q : DQ} {ex : DX} (h : sp_is_within Γ ds st q ex) : t_is_within Γ (fun x _ st => ex x st) { nx := fun _ st' => q .non st', rt := q } (dstart N_is_within ds) st := by
  obtain ⟨d, lo, hi, rfl, hd, hq⟩ := h
  show t_is_within Γ _ _ [some d, some (.int lo), some (.int hi)] st
  unfold t_is_within
  simp only [sRet, sSeq, sNext, sIf, sDrop, sSet, sAsg, sPar, sPar3, sAug, sRaise, dAndV, dOrV, dNotV, dAnd, dOr, dNot, dB, dIf, dOp, dUn, dCB, dVar, dC, dNil, dCons, dTup, dLst, dChain, dCall, gNm, gTp, gsCons, gsNil, DL.gSub, nIsi, dBM, dBM0, dPart, dNoPart, dSl, dInW, dIxW, dNewK, dNewT, dRevL, dRevT, dDPop1, dItems, dLRg, iTupD, iLstD, iStrD, iEnD, iRng1D, iRng2D, oI2, oNeg, List.getElem?_cons_zero, List.getElem?_cons_succ, List.set_cons_zero, List.set_cons_succ, exists_eq_left', exists_eq_left, exists_and_left, exists_eq', and_assoc, Option.some.injEq, List.cons.injEq, D.ty.injEq, D.bl.injEq, D.int.injEq, D.str.injEq, D.tup.injEq, D.ref.injEq, and_true, true_and]
  refine ⟨d, rfl, hd, _, rfl, ?_⟩
  cases e : isIntD d with
  | false =>
    rw [if_neg (by decide)]
    have : inR d lo hi = false := by cases d <;> first | rfl | cases e
    rw [this] at hq
    exact hq
  | true =>
    rw [if_pos rfl]
    cases d <;> try (cases e; done)
    rename_i i
    show ∃ k, D.bl (decide (lo ≤ i)) = .bl k ∧ _
    refine ⟨_, rfl, ?_⟩
    simp only [inR] at hq
    cases e2 : decide (lo ≤ i) with
    | true => rw [if_pos rfl]; rw [e2] at hq; exact hq
    | false => rw [if_neg (by decide)]; rw [e2] at hq; exact hq
theorem pure_is_sign {Γ : Gn} {ds : List D} {st : Stt} {q : DQ} {ex : DX} (h : sp_is_sign Γ ds st q ex) : t_is_sign Γ (fun x _ st => ex x st) { nx := fun _ st' => q .non st', rt := q } (dstart N_is_sign ds) st := by
  obtain ⟨d, rfl, hd, hq⟩ := h
  show t_is_sign Γ _ _ [some d] st
  unfold t_is_sign
  simp only [sRet, sSeq, sNext, sIf, sDrop, sSet, sAsg, sPar, sPar3, sAug, sRaise, dAndV, dOrV, dNotV, dAnd, dOr, dNot, dB, dIf, dOp, dUn, dCB, dVar, dC, dNil, dCons, dTup, dLst, dChain, dCall, gNm, gTp, gsCons, gsNil, DL.gSub, nIsi, dBM, dBM0, dPart, dNoPart, dSl, dInW, dIxW, dNewK, dNewT, dRevL, dRevT, dDPop1, dItems, dLRg, iTupD, iLstD, iStrD, iEnD, iRng1D, iRng2D, oI2, oNeg, List.getElem?_cons_zero, List.getElem?_cons_succ, List.set_cons_zero, List.set_cons_succ, exists_eq_left', exists_eq_left, exists_and_left, exists_eq', and_assoc, Option.some.injEq, List.cons.injEq, D.ty.injEq, D.bl.injEq, D.int.injEq, D.str.injEq, D.tup.injEq, D.ref.injEq, and_true, true_and]
  obtain ⟨t, ht⟩ := ty_of hd
  refine ⟨by decide, t, ht, ?_⟩
  rcases isa_str hd ht with ⟨h1, x, rfl⟩ | ⟨h1, h2⟩
  · rw [if_pos h1]
    exact ⟨x, rfl, hq⟩
  · rw [if_neg (by rw [h1]; decide)]
    have : isSignD d = false := by cases d <;> first | rfl | exact absurd rfl (h2 _)
    rw [this] at hq
    exact hq
theorem atI_nn {α : Type} (xs : List α) (i : Nat) : atI xs (i : Int) = xs[i]? := by
  unfold atI ixN
  by_cases h : i < xs.length
  · have h1 : ¬ ((i : Int) < 0) := by omega
    simp [h1, h]
  · rw [List.getElem?_eq_none (by omega)]
    have h1 : ¬ ((i : Int) < 0) := by omega
    simp [h1, h]
section
variable {st : Stt} {q : DQ} {xs : List D} {a : Addr} {d : D}
theorem i_lenT (h : q (.int xs.length) st) : nLen [.tup xs] st q := ⟨_, rfl, .inl ⟨_, rfl, h⟩⟩
theorem i_lenL (e : st a = some (.lst xs)) (h : q (.int xs.length) st) : nLen [.ref a] st q := ⟨_, rfl, .inr (.inr (.inr ⟨_, rfl, .inl ⟨_, e, h⟩⟩))⟩
theorem i_lenK {kvs : List (Key × D)} (e : st a = some (.dK kvs)) (h : q (.int kvs.length) st) : nLen [.ref a] st q := ⟨_, rfl, .inr (.inr (.inr ⟨_, rfl, .inr (.inl ⟨_, e, h⟩)⟩))⟩
theorem i_lenS {x : Str} (e : x.length ≤ sizeLine) (h : q (.int x.length) st) : nLen [.str x] st q := ⟨_, rfl, .inr (.inr (.inl ⟨_, rfl, e, h⟩))⟩
theorem i_ixT {i : Nat} (e : xs[i]? = some d) (h : q d st) : oIx (.tup xs) (.int i) st q := .inl ⟨_, _, _, rfl, rfl, by rw [atI_nn]; exact e, h⟩
theorem i_ixL {i : Nat} (ea : st a = some (.lst xs)) (e : xs[i]? = some d) (h : q d st) : oIx (.ref a) (.int i) st q := .inr (.inr ⟨_, rfl, .inl ⟨_, _, _, ea, rfl, by rw [atI_nn]; exact e, h⟩⟩)
theorem i_ixK {kvs : List (Key × D)} {k : D} {kk : Key} (ea : st a = some (.dK kvs)) (ek : keyD k = some kk) (e : valD kvs kk = some d) (h : q d st) : oIx (.ref a) k st q := .inr (.inr ⟨_, rfl, .inr (.inl ⟨_, _, _, ea, ek, e, h⟩)⟩)
theorem i_ixKT {kvs : List (List Key × D)} {k : D} {kk : List Key} (ea : st a = some (.dT kvs)) (ek : keyT k = some kk) (e : valD kvs kk = some d) (h : q d st) : oIx (.ref a) k st q := .inr (.inr ⟨_, rfl, .inr (.inr ⟨_, _, _, ea, ek, e, h⟩)⟩)
theorem i_eqS {a b : D} {neg r : Bool} (e : eqS a b = some r) (h : q (.bl (neg ^^ r)) st) : oEqB neg a b st q := .inl ⟨_, e, h⟩
theorem i_eqI {i j : Int} {neg : Bool} (h : q (.bl (neg ^^ decide (i = j))) st) : oEqB neg (.int i) (.int j) st q := .inl ⟨_, rfl, h⟩
theorem i_slT {lo hi : Option Int} (h : q (.tup (cutL xs lo hi)) st) : oSl (.tup xs) lo hi st q := .inl ⟨_, rfl, h⟩
theorem i_slL {lo hi : Option Int} (e : st a = some (.lst xs)) (h : ∀ p, st p = none → q (.ref p) (put st p (.lst (cutL xs lo hi)))) : oSl (.ref a) lo hi st q := .inr (.inr (.inr ⟨_, _, rfl, e, h⟩))
theorem i_inK {kvs : List (Key × D)} {k : D} {kk : Key} {neg : Bool} (ea : st a = some (.dK kvs)) (ek : keyD k = some kk) (h : q (.bl (neg ^^ (valD kvs kk).isSome)) st) : oIn neg k (.ref a) st q := .inr (.inr ⟨_, rfl, .inr (.inl ⟨_, _, ea, ek, h⟩)⟩)
theorem i_inT {x : D} {neg : Bool} (h1 : flatD x = true) (h2 : xs.all flatD = true) (h : q (.bl (neg ^^ xs.any fun y => eqF y x)) st) : oIn neg x (.tup xs) st q := .inl ⟨_, rfl, h1, h2, h⟩
theorem i_append {y : D} (e : st a = some (.lst xs)) (hl : xs.length < sizeLine) (h : q .non (put st a (.lst (xs ++ [y])))) : mAppend (.ref a) [y] st q := ⟨_, _, _, rfl, rfl, e, hl, h⟩
theorem i_extend {ys : List D} {b : Addr} (e : st a = some (.lst xs)) (e2 : st b = some (.lst ys)) (hl : xs.length + ys.length ≤ sizeLine) (h : q .non (put st a (.lst (xs ++ ys)))) : mExtend (.ref a) [.ref b] st q := ⟨_, _, _, _, rfl, rfl, e, e2, hl, h⟩
theorem i_pop {y : D} (e : st a = some (.lst (xs ++ [y]))) (h : q y (put st a (.lst xs))) : mPop (.ref a) [] st q := ⟨_, _, y, rfl, rfl, e, by simp, by simpa using h⟩
theorem i_isL (e : st a = some (.lst xs)) : isLst (.ref a) st := ⟨_, _, rfl, e⟩
end
theorem cut1 {α : Type} (x : α) (xs : List α) : cutL (x :: xs) (some 1) none = xs := by
  unfold cutL HT.sIx
  simp [HT.sIx]
theorem Ext.refl {st : Stt} : Ext st st := fun _ _ h => h
theorem Ext.trans {a b c : Stt} (h : Ext a b) (g : Ext b c) : Ext a c := fun x o e => g x o (h x o e)
theorem Ext.new {st : Stt} {p : Addr} {o : O} (h : st p = none) : Ext st (put st p o) := fun a u e => by rw [put_ne (neq_of e h)]; exact e
/-- written at a place that was new at first -/
theorem Ext.put {st st' : Stt} {p : Addr} {o : O} (h : Ext st st') (n : st p = none) : Ext st (put st' p o) := fun a u e => by rw [put_ne (neq_of e n)]; exact h a u e
theorem Ext.none {st st' : Stt} (h : Ext st st') {p : Addr} (n : st' p = .none) : st p = .none := by
  cases e : st p with
  | none => rfl
  | some o => rw [h p o e] at n; cases n
theorem pure_has_form {Γ : Gn} {ds : List D} {st : Stt} {q : DQ} {ex : DX} (h : sp_has_form Γ ds st q ex) : t_has_form Γ (fun x _ st => ex x st) { nx := fun _ st' => q .non st', rt := q } (dstart N_has_form ds) st := by
  obtain ⟨d, rfl, hd, hq⟩ := h
  show t_has_form Γ _ _ [some d] st
  unfold t_has_form
  simp only [sRet, sSeq, sNext, sIf, sDrop, sSet, sAsg, sPar, sPar3, sAug, sRaise, dAndV, dOrV, dNotV, dAnd, dOr, dNot, dB, dIf, dOp, dUn, dCB, dVar, dC, dNil, dCons, dTup, dLst, dChain, dCall, gNm, gTp, gsCons, gsNil, DL.gSub, nIsi, dBM, dBM0, dPart, dNoPart, dSl, dInW, dIxW, dNewK, dNewT, dRevL, dRevT, dDPop1, dItems, dLRg, iTupD, iLstD, iStrD, iEnD, iRng1D, iRng2D, oI2, oNeg, List.getElem?_cons_zero, List.getElem?_cons_succ, List.set_cons_zero, List.set_cons_succ, exists_eq_left', exists_eq_left, exists_and_left, exists_eq', and_assoc, Option.some.injEq, List.cons.injEq, D.ty.injEq, D.bl.injEq, D.int.injEq, D.str.injEq, D.tup.injEq, D.ref.injEq, and_true, true_and]
  obtain ⟨t, ht⟩ := ty_of hd
  refine ⟨by decide, t, ht, ?_⟩
  rcases isa_tup hd ht with ⟨h1, xs, rfl, hxl, hx⟩ | ⟨h1, h2⟩
  · rw [if_pos h1]
    cases xs with
    | nil =>
      refine i_lenT ⟨_, rfl, ?_⟩
      rw [if_neg (by decide)]
      exact hq
    | cons x xs =>
      refine i_lenT ⟨_, rfl, ?_⟩
      have hl : decide ((0 : Int) < ((x :: xs).length : Nat)) = true := decide_eq_true (by simp)
      rw [if_pos hl]
      refine i_ixT (i := 0) rfl ⟨x, rfl, hx x List.mem_cons_self, _, rfl, ?_⟩
      cases e : isSignD x with
      | false =>
        have : formD (.tup (x :: xs)) = false := by
          cases x <;> try rfl
          rename_i z
          simp only [isSignD] at e
          cases e2 : RK.lookup z with
          | none => simp only [formD, e2]
          | some r => rw [e2] at e; cases e
        rw [if_neg (by decide)]
        rw [this] at hq
        exact hq
      | true =>
        cases x <;> try (cases e; done)
        rename_i z
        simp only [isSignD] at e
        cases e2 : RK.lookup z with
        | none => rw [e2] at e; cases e
        | some r =>
          rw [if_pos rfl]
          refine i_lenT (i_ixT (i := 0) rfl ⟨z, rfl, r, e2, ?_⟩)
          show oEqB false (.int _) (.int (1 + r)) st q
          refine i_eqI ?_
          have : formD (.tup (.str z :: xs)) = decide ((xs.length : Int) = r) := by simp only [formD, e2]
          rw [this] at hq
          have e3 : decide ((((D.str z :: xs).length : Nat) : Int) = 1 + r) = decide ((xs.length : Int) = r) := by
            rw [decide_eq_decide]
            simp
            omega
          rw [e3]
          simpa using hq
  · rw [if_neg (by rw [h1]; decide)]
    have : formD d = false := by
      cases d with
      | tup xs => exact absurd rfl (h2 xs)
      | _ => rfl
    rw [this] at hq
    exact hq
theorem pure_check_tree {Γ : Gn} {ds : List D} {st : Stt} {q : DQ} {ex : DX} (h : sp_check_tree Γ ds st q ex) : t_check_tree Γ (fun x _ st => ex x st) { nx := fun _ st' => q .non st', rt := q } (dstart N_check_tree ds) st := by
  obtain ⟨d, rfl, hd, hq⟩ := h
  show t_check_tree Γ _ _ [some d] st
  unfold t_check_tree
  simp only [sRet, sSeq, sNext, sIf, sDrop, sSet, sAsg, sPar, sPar3, sAug, sRaise, dAndV, dOrV, dNotV, dAnd, dOr, dNot, dB, dIf, dOp, dUn, dCB, dVar, dC, dNil, dCons, dTup, dLst, dChain, dCall, gNm, gTp, gsCons, gsNil, DL.gSub, nIsi, dBM, dBM0, dPart, dNoPart, dSl, dInW, dIxW, dNewK, dNewT, dRevL, dRevT, dDPop1, dItems, dLRg, iTupD, iLstD, iStrD, iEnD, iRng1D, iRng2D, oI2, oNeg, List.getElem?_cons_zero, List.getElem?_cons_succ, List.set_cons_zero, List.set_cons_succ, exists_eq_left', exists_eq_left, exists_and_left, exists_eq', and_assoc, Option.some.injEq, List.cons.injEq, D.ty.injEq, D.bl.injEq, D.int.injEq, D.str.injEq, D.tup.injEq, D.ref.injEq, and_true, true_and]
  refine ⟨d, rfl, hd, fun st' hx => ⟨_, rfl, ?_⟩⟩
  have := hq st' hx
  cases e : treeB d with
  | true => rw [e] at this; exact this
  | false => rw [e] at this; exact this
theorem pure_check_type {Γ : Gn} {ds : List D} {st : Stt} {q : DQ} {ex : DX} (h : sp_check_type Γ ds st q ex) : t_check_type Γ (fun x _ st => ex x st) { nx := fun _ st' => q .non st', rt := q } (dstart N_check_type ds) st := by
  obtain ⟨d, rfl, hd, hq⟩ := h
  show t_check_type Γ _ _ [some d] st
  unfold t_check_type
  simp only [sRet, sSeq, sNext, sIf, sDrop, sSet, sAsg, sPar, sPar3, sAug, sRaise, dAndV, dOrV, dNotV, dAnd, dOr, dNot, dB, dIf, dOp, dUn, dCB, dVar, dC, dNil, dCons, dTup, dLst, dChain, dCall, gNm, gTp, gsCons, gsNil, DL.gSub, nIsi, dBM, dBM0, dPart, dNoPart, dSl, dInW, dIxW, dNewK, dNewT, dRevL, dRevT, dDPop1, dItems, dLRg, iTupD, iLstD, iStrD, iEnD, iRng1D, iRng2D, oI2, oNeg, List.getElem?_cons_zero, List.getElem?_cons_succ, List.set_cons_zero, List.set_cons_succ, exists_eq_left', exists_eq_left, exists_and_left, exists_eq', and_assoc, Option.some.injEq, List.cons.injEq, D.ty.injEq, D.bl.injEq, D.int.injEq, D.str.injEq, D.tup.injEq, D.ref.injEq, and_true, true_and]
  refine ⟨d, rfl, hd, fun st' hx => ⟨_, rfl, ?_⟩⟩
  have := hq st' hx
  cases e : isTypeF st d with
  | true => rw [e] at this; exact this
  | false => rw [e] at this; exact this
theorem pure__law_flag {Γ : Gn} {ds : List D} {st : Stt} {q : DQ} {ex : DX} (h : sp__law_flag Γ ds st q ex) : t__law_flag Γ (fun x _ st => ex x st) { nx := fun _ st' => q .non st', rt := q } (dstart N__law_flag ds) st := by
  obtain ⟨a, b, rfl, hq⟩ := h
  show t__law_flag Γ _ _ [some (.bl a), some (.bl b)] st
  unfold t__law_flag
  simp only [sRet, sSeq, sNext, sIf, sDrop, sSet, sAsg, sPar, sPar3, sAug, sRaise, dAndV, dOrV, dNotV, dAnd, dOr, dNot, dB, dIf, dOp, dUn, dCB, dVar, dC, dNil, dCons, dTup, dLst, dChain, dCall, gNm, gTp, gsCons, gsNil, DL.gSub, nIsi, dBM, dBM0, dPart, dNoPart, dSl, dInW, dIxW, dNewK, dNewT, dRevL, dRevT, dDPop1, dItems, dLRg, iTupD, iLstD, iStrD, iEnD, iRng1D, iRng2D, oI2, oNeg, List.getElem?_cons_zero, List.getElem?_cons_succ, List.set_cons_zero, List.set_cons_succ, exists_eq_left', exists_eq_left, exists_and_left, exists_eq', and_assoc, Option.some.injEq, List.cons.injEq, D.ty.injEq, D.bl.injEq, D.int.injEq, D.str.injEq, D.tup.injEq, D.ref.injEq, and_true, true_and]
  cases a <;> cases b <;> exact hq
theorem pure__law_ranks {Γ : Gn} {ds : List D} {st : Stt} {q : DQ} {ex : DX} (h : sp__law_ranks Γ ds st q ex) : t__law_ranks Γ (fun x _ st => ex x st) { nx := fun _ st' => q .non st', rt := q } (dstart N__law_ranks ds) st := by
  obtain ⟨rfl, hq⟩ := h
  unfold t__law_ranks
  simp only [sRet, sSeq, sNext, sIf, sDrop, sSet, sAsg, sPar, sPar3, sAug, sRaise, dAndV, dOrV, dNotV, dAnd, dOr, dNot, dB, dIf, dOp, dUn, dCB, dVar, dC, dNil, dCons, dTup, dLst, dChain, dCall, gNm, gTp, gsCons, gsNil, DL.gSub, nIsi, dBM, dBM0, dPart, dNoPart, dSl, dInW, dIxW, dNewK, dNewT, dRevL, dRevT, dDPop1, dItems, dLRg, iTupD, iLstD, iStrD, iEnD, iRng1D, iRng2D, oI2, oNeg, List.getElem?_cons_zero, List.getElem?_cons_succ, List.set_cons_zero, List.set_cons_succ, exists_eq_left', exists_eq_left, exists_and_left, exists_eq', and_assoc, Option.some.injEq, List.cons.injEq, D.ty.injEq, D.bl.injEq, D.int.injEq, D.str.injEq, D.tup.injEq, D.ref.injEq, and_true, true_and]
  simp only [List.length_cons, List.length_nil]
  refine ⟨by decide, by decide, by decide, by decide, by decide, by decide, by decide, by decide, by decide, ?_⟩
  exact hq
end K73
/-! K4: the draws. -/
namespace K73
open PySem PySem.Spec L2 DL
theorem Mov.refl {h : Addr} {st : Stt} : Mov h st st := fun _ _ _ e => e
theorem Mov.trans {h : Addr} {a b c : Stt} (x : Mov h a b) (y : Mov h b c) : Mov h a c := fun p o n e => y p o n (x p o n e)
theorem Mov.of {h : Addr} {a b : Stt} (x : Ext a b) : Mov h a b := fun p o _ e => x p o e
theorem Mov.at_ {h : Addr} {st : Stt} {o : O} : Mov h st (put st h o) := fun a u n e => by rw [put_ne n]; exact e
theorem Mov.new {h p : Addr} {st : Stt} {o : O} (n : st p = none) : Mov h st (put st p o) := .of (.new n)
/-- written at h, or at a place that was new -/
theorem Mov.put_h {h : Addr} {a b : Stt} {o : O} (x : Mov h a b) : Mov h a (put b h o) := x.trans .at_
theorem Mov.put_new {h p : Addr} {a b : Stt} {o : O} (x : Mov h a b) (n : a p = none) : Mov h a (put b p o) := fun q u hq e => by rw [put_ne (neq_of e n)]; exact x q u hq e
theorem Dr.trans {h : Addr} {a b c : Stt} (x : Dr h a b) (y : Dr h b c) : Dr h a c := ⟨x.1.trans y.1, y.2.1, fun p r e => let ⟨r1, e1⟩ := x.2.2 p r e; y.2.2 p r1 e1⟩
theorem Dr.refl {h : Addr} {a : Stt} (x : HandOk a h) : Dr h a a := ⟨.refl, x, fun _ r e => ⟨r, e⟩⟩
/-- what is new lies beside the hand -/
theorem Dr.new {h p : Addr} {a b : Stt} {o : O} (ha : HandOk a h) (x : Dr h a b) (n : a p = .none) : Dr h a (put b p o) := by
  obtain ⟨c, cells, i, j, k, l, hc, e1, e2, hi⟩ := ha
  obtain ⟨c', cells', i', j', k', l', hc', e1', e2', hi'⟩ := x.2.1
  obtain ⟨r', e3⟩ := x.2.2 _ _ e1
  rw [e1'] at e3
  cases e3
  have hp := neq_of e1 n
  have hcp := neq_of e2 n
  exact ⟨x.1.put_new n, ⟨c, cells', i', j', k', l', hc, by rw [put_ne hp]; exact e1', by rw [put_ne hcp]; exact e2', hi'⟩, fun d r e => ⟨_, by rw [put_ne hp]; rw [e1] at e; cases e; exact e1'⟩⟩
theorem Dr.ext {h : Addr} {a b c : Stt} (x : Dr h a b) (y : Ext b c) : Dr h a c := by
  obtain ⟨d, cells, i, j, k, l, hd, e1, e2, hi⟩ := x.2.1
  exact ⟨x.1.trans (.of y), ⟨d, cells, i, j, k, l, hd, y _ _ e1, y _ _ e2, hi⟩, fun p r e => let ⟨r', e'⟩ := x.2.2 p r e; ⟨r', y _ _ e'⟩⟩
theorem Dr.none {h : Addr} {a b : Stt} (x : Dr h a b) {p : Addr} (n : b p = .none) : a p = .none := by
  cases e : a p with
  | none => rfl
  | some o =>
    exfalso
    by_cases hp : p = h
    · subst hp
      obtain ⟨c, cells, i, j, k, l, hc, e1, e2, hi⟩ := x.2.1
      rw [e1] at n
      cases n
    · rw [x.1 p o hp e] at n; cases n
/-- the hand, written -/
theorem dr_of {h c : Addr} {st st' : Stt} {cells : List Int} {i j k l i' j' k' l' : Int} (hc : c ≠ h) (e : st h = some (.lst [.ref c, .int i, .int j, .int k, .int l])) (e' : st' h = some (.lst [.ref c, .int i', .int j', .int k', .int l'])) (ec : st c = some (.lst (nI cells))) (hi : 0 ≤ i') (mv : Mov h st st') : Dr h st st' :=
  ⟨mv, ⟨c, cells, i', j', k', l', hc, e', mv c _ hc ec, hi⟩, fun d r z => by rw [e] at z; cases z; exact ⟨_, e'⟩⟩
theorem i_setL {st : Stt} {q : Stt → Prop} {a : Addr} {xs : List D} {j : Nat} {d : D} (e : st a = some (.lst xs)) (hj : j < xs.length) (h : q (put st a (.lst (xs.set j d)))) : oSet (.ref a) (.int j) d st q := by
  refine ⟨a, rfl, .inl ⟨xs, j, j, e, rfl, ?_, h⟩⟩
  unfold ixN
  have h1 : ¬ ((j : Int) < 0) := by omega
  simp [h1, hj]
section
variable {st : Stt} {i j : Int} {A : Bool → Stt → Prop}
theorem t_gt (h : A (decide (j < i)) st) : oGt (.int i) (.int j) st (fun x st1 => ∃ k, x = .bl k ∧ A k st1) := ⟨_, rfl, h⟩
theorem t_lt (h : A (decide (i < j)) st) : oLt (.int i) (.int j) st (fun x st1 => ∃ k, x = .bl k ∧ A k st1) := ⟨_, rfl, h⟩
theorem t_ge (h : A (decide (j ≤ i)) st) : oGe (.int i) (.int j) st (fun x st1 => ∃ k, x = .bl k ∧ A k st1) := ⟨_, rfl, h⟩
theorem t_le (h : A (decide (i ≤ j)) st) : oLe (.int i) (.int j) st (fun x st1 => ∃ k, x = .bl k ∧ A k st1) := ⟨_, rfl, h⟩
theorem t_eqI (h : A (decide (i = j)) st) : oEqB false (.int i) (.int j) st (fun x st1 => ∃ k, x = .bl k ∧ A k st1) := i_eqI ⟨_, rfl, by simpa using h⟩
theorem t_neI (h : A (decide (i ≠ j)) st) : oEqB true (.int i) (.int j) st (fun x st1 => ∃ k, x = .bl k ∧ A k st1) := i_eqI ⟨_, rfl, by simpa using h⟩
end
theorem i_add {st : Stt} {q : DQ} {i j : Int} (h : q (.int (i + j)) st) : oAdd (.int i) (.int j) st q := h
theorem i_int {st : Stt} {q : DQ} {i : Int} (h : q (.int i) st) : nInt [.int i] st q := .inl ⟨i, rfl, h⟩
theorem i_mod {st : Stt} {q : DQ} {i j : Int} (hj : 0 < j) (h : q (.int (i % j)) st) : oMod (.int i) (.int j) st q := ⟨hj, h⟩
theorem i_setK {st : Stt} {q : Stt → Prop} {a : Addr} {kvs : List (Key × D)} {k : D} {kk : Key} {d : D} (e : st a = some (.dK kvs)) (ek : keyD k = some kk) (hl : kvs.length < sizeLine) (h : q (put st a (.dK (putD kvs kk d)))) : oSet (.ref a) k d st q :=
  ⟨a, rfl, .inr (.inl ⟨kvs, kk, e, ek, hl, h⟩)⟩
theorem i_setT {st : Stt} {q : Stt → Prop} {a : Addr} {kvs : List (List Key × D)} {k : D} {kk : List Key} {d : D} (e : st a = some (.dT kvs)) (ek : keyT k = some kk) (hl : kvs.length < sizeLine) (h : q (put st a (.dT (putD kvs kk d)))) : oSet (.ref a) k d st q :=
  ⟨a, rfl, .inr (.inr ⟨kvs, kk, e, ek, hl, h⟩)⟩
theorem small_div {n : Int} (h : 0 < n) (h2 : n < 2 ^ 62) (i : Int) : CDivW i n := wide_div (b := 62) h (by omega) (by decide) (by decide)
theorem mul_l {i j : Int} (h : -(2 ^ 64) < i) (h2 : i < 2 ^ 64) : CMul i j ∨ CMulW i j := .inl (.inl ⟨h, h2⟩)
theorem mul_r {i j : Int} (h : -(2 ^ 64) < j) (h2 : j < 2 ^ 64) : CMul i j ∨ CMulW i j := .inl (.inr ⟨h, h2⟩)
section
variable {Γ : Gn} {st : Stt} {q : DQ} {ex : DXE} {h c : Addr} {n : Int} {cells : List Int} {i j k l : Int} {o : Option D} {nx : DEnv → Stt → Prop}
theorem draw_2 (hn : 0 < n) (hc : c ≠ h) (e : st h = some (.lst [.ref c, .int i, .int j, .int k, .int l])) (ec : st c = some (.lst (nI cells))) (hi : 0 ≤ i)
    (hq : ∀ (r : Int) st', 0 ≤ r → r < n → Dr h st st' → q (.int r) st') : u__law_draw_2 Γ ex { nx := nx, rt := q } [some (.ref h), some (.int n), o, none, none] st := by
  unfold u__law_draw_2
  simp only [sRet, sSeq, sNext, sIf, sDrop, sSet, sAsg, sPar, sPar3, sAug, sRaise, dAndV, dOrV, dNotV, dAnd, dOr, dNot, dB, dIf, dOp, dUn, dCB, dVar, dC, dNil, dCons, dTup, dLst, dChain, dCall, gNm, gTp, gsCons, gsNil, DL.gSub, nIsi, dBM, dBM0, dPart, dNoPart, dSl, dInW, dIxW, dNewK, dNewT, dRevL, dRevT, dDPop1, dItems, dLRg, iTupD, iLstD, iStrD, iEnD, iRng1D, iRng2D, oI2, oNeg, List.getElem?_cons_zero, List.getElem?_cons_succ, List.set_cons_zero, List.set_cons_succ, exists_eq_left', exists_eq_left, exists_and_left, exists_eq', and_assoc, Option.some.injEq, List.cons.injEq, D.ty.injEq, D.bl.injEq, D.int.injEq, D.str.injEq, D.tup.injEq, D.ref.injEq, and_true, true_and]
  refine i_ixL (i := 4) e rfl ?_
  refine i_setL (j := 4) e (by simp) ?_
  have e1 : put st h (.lst ([D.ref c, .int i, .int j, .int k, .int l].set 4 (.int (l + 1)))) h = some (.lst [D.ref c, .int i, .int j, .int k, .int (l + 1)]) := put_same
  have c1 : put st h (.lst ([D.ref c, .int i, .int j, .int k, .int l].set 4 (.int (l + 1)))) c = some (.lst (nI cells)) := by rw [put_ne hc]; exact ec
  have mv : Mov h st (put st h (.lst ([D.ref c, .int i, .int j, .int k, .int l].set 4 (.int (l + 1))))) := .at_
  generalize put st h (.lst ([D.ref c, .int i, .int j, .int k, .int l].set 4 (.int (l + 1)))) = st1 at e1 c1 mv
  unfold u__law_draw_3
  simp only [sRet, sSeq, sNext, sIf, sDrop, sSet, sAsg, sPar, sPar3, sAug, sRaise, dAndV, dOrV, dNotV, dAnd, dOr, dNot, dB, dIf, dOp, dUn, dCB, dVar, dC, dNil, dCons, dTup, dLst, dChain, dCall, gNm, gTp, gsCons, gsNil, DL.gSub, nIsi, dBM, dBM0, dPart, dNoPart, dSl, dInW, dIxW, dNewK, dNewT, dRevL, dRevT, dDPop1, dItems, dLRg, iTupD, iLstD, iStrD, iEnD, iRng1D, iRng2D, oI2, oNeg, List.getElem?_cons_zero, List.getElem?_cons_succ, List.set_cons_zero, List.set_cons_succ, exists_eq_left', exists_eq_left, exists_and_left, exists_eq', and_assoc, Option.some.injEq, List.cons.injEq, D.ty.injEq, D.bl.injEq, D.int.injEq, D.str.injEq, D.tup.injEq, D.ref.injEq, and_true, true_and]
  refine i_ixL (i := 3) e1 rfl (i_ixL (i := 4) e1 rfl ⟨mul_l (by decide) (by decide), i_add (i_int ⟨mul_r (by decide) (by decide), i_int (i_mod (by decide) ?_)⟩)⟩)
  have b1 : ∀ z : Int, -(2 ^ 64) < z % 2147483647 ∧ z % 2147483647 < 2 ^ 64 := fun z => by omega
  have b2 : ∀ z : Int, -(2 ^ 64) < z % 2147483563 ∧ z % 2147483563 < 2 ^ 64 := fun z => by omega
  unfold u__law_draw_4
  simp only [sRet, sSeq, sNext, sIf, sDrop, sSet, sAsg, sPar, sPar3, sAug, sRaise, dAndV, dOrV, dNotV, dAnd, dOr, dNot, dB, dIf, dOp, dUn, dCB, dVar, dC, dNil, dCons, dTup, dLst, dChain, dCall, gNm, gTp, gsCons, gsNil, DL.gSub, nIsi, dBM, dBM0, dPart, dNoPart, dSl, dInW, dIxW, dNewK, dNewT, dRevL, dRevT, dDPop1, dItems, dLRg, iTupD, iLstD, iStrD, iEnD, iRng1D, iRng2D, oI2, oNeg, List.getElem?_cons_zero, List.getElem?_cons_succ, List.set_cons_zero, List.set_cons_succ, exists_eq_left', exists_eq_left, exists_and_left, exists_eq', and_assoc, Option.some.injEq, List.cons.injEq, D.ty.injEq, D.bl.injEq, D.int.injEq, D.str.injEq, D.tup.injEq, D.ref.injEq, and_true, true_and]
  refine ⟨small_div (by decide) (by decide) _, mul_l (b1 _).1 (b1 _).2, i_int (i_mod (by decide) ?_)⟩
  unfold u__law_draw_5
  simp only [sRet, sSeq, sNext, sIf, sDrop, sSet, sAsg, sPar, sPar3, sAug, sRaise, dAndV, dOrV, dNotV, dAnd, dOr, dNot, dB, dIf, dOp, dUn, dCB, dVar, dC, dNil, dCons, dTup, dLst, dChain, dCall, gNm, gTp, gsCons, gsNil, DL.gSub, nIsi, dBM, dBM0, dPart, dNoPart, dSl, dInW, dIxW, dNewK, dNewT, dRevL, dRevT, dDPop1, dItems, dLRg, iTupD, iLstD, iStrD, iEnD, iRng1D, iRng2D, oI2, oNeg, List.getElem?_cons_zero, List.getElem?_cons_succ, List.set_cons_zero, List.set_cons_succ, exists_eq_left', exists_eq_left, exists_and_left, exists_eq', and_assoc, Option.some.injEq, List.cons.injEq, D.ty.injEq, D.bl.injEq, D.int.injEq, D.str.injEq, D.tup.injEq, D.ref.injEq, and_true, true_and]
  refine ⟨small_div (by decide) (by decide) _, mul_l (b1 _).1 (b1 _).2, i_int (i_mod (by decide) ?_)⟩
  unfold u__law_draw_6
  simp only [sRet, sSeq, sNext, sIf, sDrop, sSet, sAsg, sPar, sPar3, sAug, sRaise, dAndV, dOrV, dNotV, dAnd, dOr, dNot, dB, dIf, dOp, dUn, dCB, dVar, dC, dNil, dCons, dTup, dLst, dChain, dCall, gNm, gTp, gsCons, gsNil, DL.gSub, nIsi, dBM, dBM0, dPart, dNoPart, dSl, dInW, dIxW, dNewK, dNewT, dRevL, dRevT, dDPop1, dItems, dLRg, iTupD, iLstD, iStrD, iEnD, iRng1D, iRng2D, oI2, oNeg, List.getElem?_cons_zero, List.getElem?_cons_succ, List.set_cons_zero, List.set_cons_succ, exists_eq_left', exists_eq_left, exists_and_left, exists_eq', and_assoc, Option.some.injEq, List.cons.injEq, D.ty.injEq, D.bl.injEq, D.int.injEq, D.str.injEq, D.tup.injEq, D.ref.injEq, and_true, true_and]
  refine ⟨small_div (by decide) (by decide) _, i_int (i_mod hn ?_)⟩
  exact hq _ st1 (Int.emod_nonneg _ (by omega)) (Int.emod_lt_of_pos _ hn) (dr_of hc e e1 ec hi mv)
theorem draw_1 (hn : 0 < n) (hn2 : n ≤ 1000) (hc : c ≠ h) (e : st h = some (.lst [.ref c, .int i, .int j, .int k, .int l])) (ec : st c = some (.lst (nI cells))) (hi : 0 ≤ i)
    (hq : ∀ (r : Int) st', 0 ≤ r → r < n → Dr h st st' → q (.int r) st') : u__law_draw_1 Γ ex { nx := nx, rt := q } [some (.ref h), some (.int n), o, none, none] st := by
  unfold u__law_draw_1
  simp only [sRet, sSeq, sNext, sIf, sDrop, sSet, sAsg, sPar, sPar3, sAug, sRaise, dAndV, dOrV, dNotV, dAnd, dOr, dNot, dB, dIf, dOp, dUn, dCB, dVar, dC, dNil, dCons, dTup, dLst, dChain, dCall, gNm, gTp, gsCons, gsNil, DL.gSub, nIsi, dBM, dBM0, dPart, dNoPart, dSl, dInW, dIxW, dNewK, dNewT, dRevL, dRevT, dDPop1, dItems, dLRg, iTupD, iLstD, iStrD, iEnD, iRng1D, iRng2D, oI2, oNeg, List.getElem?_cons_zero, List.getElem?_cons_succ, List.set_cons_zero, List.set_cons_succ, exists_eq_left', exists_eq_left, exists_and_left, exists_eq', and_assoc, Option.some.injEq, List.cons.injEq, D.ty.injEq, D.bl.injEq, D.int.injEq, D.str.injEq, D.tup.injEq, D.ref.injEq, and_true, true_and]
  refine i_ixL (i := 2) e rfl (t_gt ?_)
  cases decide ((0 : Int) < j) with
  | false =>
    rw [if_neg (by decide)]
    exact draw_2 hn hc e ec hi hq
  | true =>
    rw [if_pos rfl]
    refine i_ixL (i := 2) e rfl (i_int (i_mod hn ?_))
    refine i_ixL (i := 2) e rfl ⟨small_div hn (by omega) _, ?_⟩
    refine i_setL (j := 2) e (by simp) ?_
    exact hq _ _ (Int.emod_nonneg _ (by omega)) (Int.emod_lt_of_pos _ hn) (dr_of (i' := i) (j' := j / n) (k' := k) (l' := l) hc e put_same ec hi .at_)
theorem ext_h {a b : Stt} (x : Mov h a b) (y : b h = a h) : Ext a b := fun p o e => by
  by_cases z : p = h
  · subst z; rw [y]; exact e
  · exact x p o z e
end
theorem pure__law_draw {Γ : Gn} {ds : List D} {st : Stt} {q : DQ} {ex : DX} (h : sp__law_draw Γ ds st q ex) : t__law_draw Γ (fun x _ st => ex x st) { nx := fun _ st' => q .non st', rt := q } (dstart N__law_draw ds) st := by
  obtain ⟨h, n, rfl, hn, hn2, ⟨c, cells, i, j, k, l, hc, e, ec, hi⟩, hq⟩ := h
  show t__law_draw Γ _ _ [some (.ref h), some (.int n), none, none, none] st
  unfold t__law_draw
  simp only [sRet, sSeq, sNext, sIf, sDrop, sSet, sAsg, sPar, sPar3, sAug, sRaise, dAndV, dOrV, dNotV, dAnd, dOr, dNot, dB, dIf, dOp, dUn, dCB, dVar, dC, dNil, dCons, dTup, dLst, dChain, dCall, gNm, gTp, gsCons, gsNil, DL.gSub, nIsi, dBM, dBM0, dPart, dNoPart, dSl, dInW, dIxW, dNewK, dNewT, dRevL, dRevT, dDPop1, dItems, dLRg, iTupD, iLstD, iStrD, iEnD, iRng1D, iRng2D, oI2, oNeg, List.getElem?_cons_zero, List.getElem?_cons_succ, List.set_cons_zero, List.set_cons_succ, exists_eq_left', exists_eq_left, exists_and_left, exists_eq', and_assoc, Option.some.injEq, List.cons.injEq, D.ty.injEq, D.bl.injEq, D.int.injEq, D.str.injEq, D.tup.injEq, D.ref.injEq, and_true, true_and]
  refine i_ixL (i := 2) e rfl (t_eqI ?_)
  cases decide (j = 0) with
  | false =>
    rw [if_neg (by decide), if_neg (by decide)]
    exact draw_1 hn hn2 hc e ec hi hq
  | true =>
    rw [if_pos rfl]
    refine i_ixL (i := 1) e rfl (i_ixL (i := 0) e rfl (i_lenL ec (t_lt ?_)))
    cases hd : decide (i < ((nI cells).length : Int)) with
    | false =>
      rw [if_neg (by decide)]
      exact draw_1 hn hn2 hc e ec hi hq
    | true =>
      rw [if_pos rfl]
      have hlt : i.toNat < cells.length := by
        have := of_decide_eq_true hd
        unfold nI at this
        rw [List.length_map] at this
        omega
      obtain ⟨z, ez⟩ : ∃ z, (nI cells)[i.toNat]? = some (.int z) := ⟨cells[i.toNat], by unfold nI; rw [List.getElem?_map, List.getElem?_eq_getElem hlt] <;> rfl⟩
      have ei : ((i.toNat : Nat) : Int) = i := by omega
      refine i_ixL (i := 0) e rfl (i_ixL (i := 1) e rfl ?_)
      have hx : ∀ {Q : DQ} {s : Stt}, s c = some (.lst (nI cells)) → Q (.int z) s → oIx (.ref c) (.int i) s Q := fun es hQ => by
        have := i_ixL (i := i.toNat) es ez hQ
        rw [ei] at this
        exact this
      refine hx ec ?_
      refine i_ixL (i := 1) e rfl (i_add (i_setL (j := 1) e (by simp) ?_))
      have e1 : put st h (.lst ([D.ref c, .int i, .int j, .int k, .int l].set 1 (.int (i + 1)))) h = some (.lst [D.ref c, .int (i + 1), .int j, .int k, .int l]) := put_same
      have c1 : put st h (.lst ([D.ref c, .int i, .int j, .int k, .int l].set 1 (.int (i + 1)))) c = some (.lst (nI cells)) := by rw [put_ne hc]; exact ec
      have mv : Mov h st (put st h (.lst ([D.ref c, .int i, .int j, .int k, .int l].set 1 (.int (i + 1))))) := .at_
      generalize put st h (.lst ([D.ref c, .int i, .int j, .int k, .int l].set 1 (.int (i + 1)))) = st1 at e1 c1 mv
      refine i_ixL (i := 3) e1 rfl ⟨mul_r (by decide) (by decide), mul_r (by decide) (by decide), i_add (i_add (i_int (i_mod (by decide) ?_)))⟩
      generalize (k * 69621 + z * 48271 + 53) % 2147483629 = k2
      refine i_setL (j := 3) e1 (by simp) ?_
      have e2 : put st1 h (.lst ([D.ref c, .int (i + 1), .int j, .int k, .int l].set 3 (.int k2))) h = some (.lst [D.ref c, .int (i + 1), .int j, .int k2, .int l]) := put_same
      have c2 : put st1 h (.lst ([D.ref c, .int (i + 1), .int j, .int k, .int l].set 3 (.int k2))) c = some (.lst (nI cells)) := by rw [put_ne hc]; exact c1
      have mv2 : Mov h st (put st1 h (.lst ([D.ref c, .int (i + 1), .int j, .int k, .int l].set 3 (.int k2)))) := mv.put_h
      generalize put st1 h (.lst ([D.ref c, .int (i + 1), .int j, .int k, .int l].set 3 (.int k2))) = st2 at e2 c2 mv2
      refine ⟨⟨by decide, by decide, by decide⟩, t_ge ?_⟩
      split
      · refine i_setL (j := 2) e2 (by simp) ?_
        exact draw_1 hn hn2 hc (i := i + 1) put_same (by rw [put_ne hc]; exact c2) (by omega) fun r st' h1 h2 h3 => hq r st' h1 h2 ((dr_of (i' := i + 1) (j' := z) (k' := k2) (l' := l) hc e put_same ec (by omega) mv2.put_h).trans h3)
      · exact draw_1 hn hn2 hc e2 c2 (by omega) fun r st' h1 h2 h3 => hq r st' h1 h2 ((dr_of hc e e2 ec (by omega) mv2).trans h3)
theorem pure__law_any {Γ : Gn} {ds : List D} {st : Stt} {q : DQ} {ex : DX} (h : sp__law_any Γ ds st q ex) : t__law_any Γ (fun x _ st => ex x st) { nx := fun _ st' => q .non st', rt := q } (dstart N__law_any ds) st := by
  obtain ⟨h, a, xs, rfl, ha, ea, hx, hl, hh, hq⟩ := h
  show t__law_any Γ _ _ [some (.ref h), some (.ref a)] st
  unfold t__law_any
  simp only [sRet, sSeq, sNext, sIf, sDrop, sSet, sAsg, sPar, sPar3, sAug, sRaise, dAndV, dOrV, dNotV, dAnd, dOr, dNot, dB, dIf, dOp, dUn, dCB, dVar, dC, dNil, dCons, dTup, dLst, dChain, dCall, gNm, gTp, gsCons, gsNil, DL.gSub, nIsi, dBM, dBM0, dPart, dNoPart, dSl, dInW, dIxW, dNewK, dNewT, dRevL, dRevT, dDPop1, dItems, dLRg, iTupD, iLstD, iStrD, iEnD, iRng1D, iRng2D, oI2, oNeg, List.getElem?_cons_zero, List.getElem?_cons_succ, List.set_cons_zero, List.set_cons_succ, exists_eq_left', exists_eq_left, exists_and_left, exists_eq', and_assoc, Option.some.injEq, List.cons.injEq, D.ty.injEq, D.bl.injEq, D.int.injEq, D.str.injEq, D.tup.injEq, D.ref.injEq, and_true, true_and]
  refine i_lenL ea ⟨h, _, rfl, ?_, by omega, hh, fun r st' h1 h2 h3 => ?_⟩
  · have := List.length_pos_iff.mpr hx
    omega
  · have hlt : r.toNat < xs.length := by omega
    have er : ((r.toNat : Nat) : Int) = r := by omega
    have := i_ixL (q := q) (st := st') (a := a) (i := r.toNat) (h3.1 a _ ha ea) (List.getElem?_eq_getElem hlt) (hq _ st' (List.getElem_mem hlt) h3)
    rw [er] at this
    exact this
end K73
/-! K5: comprehensions in general; rows, numbers. -/
namespace K73
open PySem PySem.Spec L2 DL
/-- what a comprehension makes of ds -/
inductive Fm (R : D → Option D → Prop) : List D → List D → Prop
  | nil : Fm R [] []
  | yes {d y : D} {ds ys : List D} : R d (some y) → Fm R ds ys → Fm R (d :: ds) (y :: ys)
  | no {d : D} {ds ys : List D} : R d none → Fm R ds ys → Fm R (d :: ds) ys
theorem Fm.map {f : D → D} {R : D → Option D → Prop} (hR : ∀ d y, R d y → y = some (f d)) {ds ys : List D} (h : Fm R ds ys) : ys = ds.map f := by
  induction h with
  | nil => rfl
  | yes r _ ih => have := hR _ _ r; cases this; rw [ih] <;> rfl
  | no r _ _ => have := hR _ _ r; cases this
theorem Fm.filt {f : D → Bool} {R : D → Option D → Prop} (hR : ∀ d y, R d y → y = if f d = true then some d else none) {ds ys : List D} (h : Fm R ds ys) : ys = ds.filter f := by
  induction h with
  | nil => rfl
  | @yes d y ds ys r _ ih =>
    have := hR _ _ r
    split at this
    · rename_i e; cases this; rw [List.filter_cons_of_pos e, ih]
    · cases this
  | @no d ds ys r _ ih =>
    have := hR _ _ r
    split at this
    · cases this
    · rename_i e; rw [List.filter_cons_of_neg e, ih]
theorem Fm.len {R : D → Option D → Prop} {ds ys : List D} (h : Fm R ds ys) : ys.length ≤ ds.length := by
  induction h with
  | nil => exact Nat.le_refl _
  | yes _ _ ih => simp; omega
  | no _ _ ih => simp; omega
theorem Fm.all {R : D → Option D → Prop} {P : D → Prop} (hR : ∀ d y, R d (some y) → P y) {ds ys : List D} (h : Fm R ds ys) : ∀ y ∈ ys, P y := by
  induction h with
  | nil => intro y hy; cases hy
  | yes r _ ih => intro y hy; exact (List.mem_cons.mp hy).elim (fun e => e ▸ hR _ _ r) (ih y)
  | no _ _ ih => exact ih
theorem Fm.lenEq {R : D → Option D → Prop} (hR : ∀ d, ¬ R d none) {ds ys : List D} (h : Fm R ds ys) : ys.length = ds.length := by
  induction h with
  | nil => rfl
  | yes _ _ ih => simp [ih]
  | no r _ _ => exact absurd r (hR _)
section
variable {chk : Stt → Prop} {ct : CT} {tt : DT} {te : DE} {p : Addr} {q : Stt → Prop} {δ0 : DEnv} {I : Stt → Prop} {R : D → Option D → Prop}
theorem runC_all (hI : ∀ st acc, I st → I (put st p (.lst acc))) (hc : ∀ st, I st → chk st) : ∀ (ds : List D) (acc : List D) (st : Stt),
    (∀ d ∈ ds, ∀ st acc, I st → st p = some (.lst acc) → ∀ (K1 : D → Stt → Prop) (K0 : Stt → Prop), (∀ y st', R d (some y) → I st' → st' p = some (.lst acc) → K1 y st') → (∀ st', R d none → I st' → st' p = some (.lst acc) → K0 st') →
      ct.dg d δ0 st fun δ2 st2 => tt δ2 st2 fun b st3 => if b = true then te δ2 st3 K1 else K0 st3) →
    I st → st p = some (.lst acc) → acc.length + ds.length ≤ sizeLine → (∀ ys st', Fm R ds ys → I st' → st' p = some (.lst (acc ++ ys)) → q st') → runC chk ct tt te p q ds δ0 st
  | [], acc, st, _, i, e, _, hq => hq [] st .nil i (by rw [List.append_nil]; exact e)
  | d :: ds, acc, st, hs, i, e, hl, hq => by
    have hl' : acc.length + (ds.length + 1) ≤ sizeLine := hl
    refine hs d List.mem_cons_self st acc i e _ _ (fun y st' r i' e' => ?_) fun st' r i' e' => ?_
    · have i2 := hI st' (acc ++ [y]) i'
      refine ⟨acc, e', by omega, hc _ i2, runC_all hI hc ds (acc ++ [y]) _ (fun d hd => hs d (List.mem_cons_of_mem _ hd)) i2 put_same (by rw [List.length_append]; simp; omega) fun ys st2 f i3 e3 => hq (y :: ys) st2 (.yes r f) i3 (by rw [e3]; simp)⟩
    · exact ⟨hc _ i', runC_all hI hc ds acc _ (fun d hd => hs d (List.mem_cons_of_mem _ hd)) i' e' (by omega) fun ys st2 f i3 e3 => hq ys st2 (.no r f) i3 e3⟩
end
/-- a comprehension over what stays ds -/
theorem lcG {it : DIt} {ct : CT} {tt : DT} {te : DE} {q : Addr → Stt → Prop} {δ0 : DEnv} {st : Stt} {ds : List D} (I : Stt → Prop) (R : D → Option D → Prop) (i0 : I st) (hI : ∀ p st' acc, st p = none → I st' → I (put st' p (.lst acc))) (hit : ∀ st', I st' → it st' = some ds) (hl : ds.length ≤ sizeLine)
    (hs : ∀ d ∈ ds, ∀ p st' acc, st p = none → I st' → st' p = some (.lst acc) → ∀ (K1 : D → Stt → Prop) (K0 : Stt → Prop), (∀ y st'', R d (some y) → I st'' → st'' p = some (.lst acc) → K1 y st'') → (∀ st'', R d none → I st'' → st'' p = some (.lst acc) → K0 st'') →
      ct.dg d δ0 st' fun δ2 st2 => tt δ2 st2 fun b st3 => if b = true then te δ2 st3 K1 else K0 st3)
    (hq : ∀ ys p st', Fm R ds ys → st p = none → I st' → st' p = some (.lst ys) → q p st') :
    ∃ ds', it st = some ds' ∧ ∀ p, st p = none → it (put st p (.lst [])) = some ds' ∧ runC (fun st' => it st' = some ds') ct tt te p (fun st2 => q p st2) ds' δ0 (put st p (.lst [])) := by
  refine ⟨ds, hit st i0, fun p np => ?_⟩
  have i1 := hI p st [] np i0
  exact ⟨hit _ i1, runC_all (I := I) (R := R) (fun st' acc => hI p st' acc np) hit ds [] _ (fun d hd st' acc => hs d hd p st' acc np) i1 put_same (by simpa using hl) fun ys st' f i e => hq ys p st' f np i (by simpa using e)⟩
/-- each item's value is plain: nothing changes -/
theorem lcP {it : DIt} {ct : CT} {te : DE} {q : Addr → Stt → Prop} {δ0 : DEnv} {st : Stt} {ds : List D} (f : D → D) (hit : ∀ st', Ext st st' → it st' = some ds) (hl : ds.length ≤ sizeLine)
    (hs : ∀ d ∈ ds, ∀ p st' acc, st p = none → Ext st st' → st' p = some (.lst acc) → ∀ (K1 : D → Stt → Prop), K1 (f d) st' → ct.dg d δ0 st' fun δ2 st2 => te δ2 st2 K1)
    (hq : ∀ p st', st p = none → Ext st st' → st' p = some (.lst (ds.map f)) → q p st') :
    ∃ ds', it st = some ds' ∧ ∀ p, st p = none → it (put st p (.lst [])) = some ds' ∧ runC (fun st' => it st' = some ds') ct tYesD te p (fun st2 => q p st2) ds' δ0 (put st p (.lst [])) :=
  lcG (Ext st) (fun d y => y = some (f d)) .refl (fun p st' acc np x => x.put np) hit hl
    (fun d hd p st' acc np x e K1 K0 h1 _ => by
      have := hs d hd p st' acc np x e K1 (h1 _ _ rfl x e)
      exact this)
    fun ys p st' fm np x e => hq p st' np x (by rw [fm.map fun _ _ h => h] at e; exact e)
/-- .. of a walk that never changes -/
theorem lcGc {ct : CT} {tt : DT} {te : DE} {q : Addr → Stt → Prop} {δ0 : DEnv} {st : Stt} {ds : List D} (I : Stt → Prop) (R : D → Option D → Prop) (i0 : I st) (hI : ∀ p st' acc, st p = none → I st' → I (put st' p (.lst acc))) (hl : ds.length ≤ sizeLine)
    (hs : ∀ d ∈ ds, ∀ p st' acc, st p = none → I st' → st' p = some (.lst acc) → ∀ (K1 : D → Stt → Prop) (K0 : Stt → Prop), (∀ y st'', R d (some y) → I st'' → st'' p = some (.lst acc) → K1 y st'') → (∀ st'', R d none → I st'' → st'' p = some (.lst acc) → K0 st'') →
      ct.dg d δ0 st' fun δ2 st2 => tt δ2 st2 fun b st3 => if b = true then te δ2 st3 K1 else K0 st3)
    (hq : ∀ ys p st', Fm R ds ys → st p = none → I st' → st' p = some (.lst ys) → q p st') :
    ∀ p, st p = none → runC (fun _ => True) ct tt te p (fun st2 => q p st2) ds δ0 (put st p (.lst [])) := fun p np =>
  runC_all (I := I) (R := R) (fun st' acc => hI p st' acc np) (fun _ _ => trivial) ds [] _ (fun d hd st' acc => hs d hd p st' acc np) (hI p st [] np i0) put_same (by simpa using hl) fun ys st' f i e => hq ys p st' f np i (by simpa using e)
theorem lcPc {ct : CT} {te : DE} {q : Addr → Stt → Prop} {δ0 : DEnv} {st : Stt} {ds : List D} (f : D → D) (hl : ds.length ≤ sizeLine)
    (hs : ∀ d ∈ ds, ∀ p st' acc, st p = none → Ext st st' → st' p = some (.lst acc) → ∀ (K1 : D → Stt → Prop), K1 (f d) st' → ct.dg d δ0 st' fun δ2 st2 => te δ2 st2 K1)
    (hq : ∀ p st', st p = none → Ext st st' → st' p = some (.lst (ds.map f)) → q p st') :
    ∀ p, st p = none → runC (fun _ => True) ct tYesD te p (fun st2 => q p st2) ds δ0 (put st p (.lst [])) :=
  lcGc (Ext st) (fun d y => y = some (f d)) .refl (fun p st' acc np x => x.put np) hl
    (fun d hd p st' acc np x e K1 K0 h1 _ => by
      have := hs d hd p st' acc np x e K1 (h1 _ _ rfl x e)
      exact this)
    fun ys p st' fm np x e => hq p st' np x (by rw [fm.map fun _ _ h => h] at e; exact e)
/-! ### number_by, _law_to -/
theorem lstAt_some {st : Stt} {a : Addr} {ds : List D} (h : st a = some (.lst ds)) : lstAt a st = some ds := by unfold lstAt; rw [h]
theorem nb_body {Γ : Gn} {ex : DXE} {st : Stt} {m : Nat} {a p : Addr} {g : D} {x : Str} {N : DN} (hm : m ≤ 5) {pl n : Int} (h : N.nx [some (.tup [.int m, .ref a, g]), some (.str x), some (.ref p), some (.int (pl * m + n)), some (.int n)] st) :
    b_number_by_1 Γ ex N [some (.tup [.int m, .ref a, g]), some (.str x), some (.ref p), some (.int pl), some (.int n)] st := by
  unfold b_number_by_1
  simp only [sRet, sSeq, sNext, sIf, sDrop, sSet, sAsg, sPar, sPar3, sAug, sRaise, dAndV, dOrV, dNotV, dAnd, dOr, dNot, dB, dIf, dOp, dUn, dCB, dVar, dC, dNil, dCons, dTup, dLst, dChain, dCall, gNm, gTp, gsCons, gsNil, DL.gSub, nIsi, dBM, dBM0, dPart, dNoPart, dSl, dInW, dIxW, dNewK, dNewT, dRevL, dRevT, dDPop1, dItems, dLRg, iTupD, iLstD, iStrD, iEnD, iRng1D, iRng2D, oI2, oNeg, List.getElem?_cons_zero, List.getElem?_cons_succ, List.set_cons_zero, List.set_cons_succ, exists_eq_left', exists_eq_left, exists_and_left, exists_eq', and_assoc, Option.some.injEq, List.cons.injEq, D.ty.injEq, D.bl.injEq, D.int.injEq, D.str.injEq, D.tup.injEq, D.ref.injEq, and_true, true_and]
  exact i_ixT (i := 0) rfl ⟨mul_r (by omega) (by omega), h⟩
theorem nb_loop {Γ : Gn} {ex : DXE} {st : Stt} {chk : Stt → Prop} {m : Nat} {a p : Addr} {g : D} {x : Str} {N : DN} (hc : chk st) (hm : m ≤ 5)
    : ∀ (ns : List Int) (pl : Int) (o : Option D), (∀ o', N.nx [some (.tup [.int m, .ref a, g]), some (.str x), some (.ref p), some (.int (ns.foldl (fun p n => p * m + n) pl)), o'] st) →
      runF chk (gNm 4) (b_number_by_1 Γ ex) N (nI ns) [some (.tup [.int m, .ref a, g]), some (.str x), some (.ref p), some (.int pl), o] st
  | [], pl, o, h => h o
  | n :: ns, pl, o, h => nb_body (Γ := Γ) (ex := ex) hm ⟨hc, nb_loop hc hm ns (pl * m + n) (some (.int n)) h⟩
theorem pure_number_by {Γ : Gn} {ds : List D} {st : Stt} {q : DQ} {ex : DX} (h : sp_number_by Γ ds st q ex) : t_number_by Γ (fun x _ st => ex x st) { nx := fun _ st' => q .non st', rt := q } (dstart N_number_by ds) st := by
  obtain ⟨m, a, p, g, x, kvs, row, ns, r, rfl, hm, ea, ev, ep, h0, er, hq⟩ := h
  show t_number_by Γ _ _ [some (.tup [.int m, .ref a, g]), some (.str x), some (.ref p), none, none] st
  unfold t_number_by
  simp only [sRet, sSeq, sNext, sIf, sDrop, sSet, sAsg, sPar, sPar3, sAug, sRaise, dAndV, dOrV, dNotV, dAnd, dOr, dNot, dB, dIf, dOp, dUn, dCB, dVar, dC, dNil, dCons, dTup, dLst, dChain, dCall, gNm, gTp, gsCons, gsNil, DL.gSub, nIsi, dBM, dBM0, dPart, dNoPart, dSl, dInW, dIxW, dNewK, dNewT, dRevL, dRevT, dDPop1, dItems, dLRg, iTupD, iLstD, iStrD, iEnD, iRng1D, iRng2D, oI2, oNeg, List.getElem?_cons_zero, List.getElem?_cons_succ, List.set_cons_zero, List.set_cons_succ, exists_eq_left', exists_eq_left, exists_and_left, exists_eq', and_assoc, Option.some.injEq, List.cons.injEq, D.ty.injEq, D.bl.injEq, D.int.injEq, D.str.injEq, D.tup.injEq, D.ref.injEq, and_true, true_and]
  unfold u_number_by_1
  simp only [sSeq, sFor]
  simp only [sRet, sSeq, sNext, sIf, sDrop, sSet, sAsg, sPar, sPar3, sAug, sRaise, dAndV, dOrV, dNotV, dAnd, dOr, dNot, dB, dIf, dOp, dUn, dCB, dVar, dC, dNil, dCons, dTup, dLst, dChain, dCall, gNm, gTp, gsCons, gsNil, DL.gSub, nIsi, dBM, dBM0, dPart, dNoPart, dSl, dInW, dIxW, dNewK, dNewT, dRevL, dRevT, dDPop1, dItems, dLRg, iTupD, iLstD, iStrD, iEnD, iRng1D, iRng2D, oI2, oNeg, List.getElem?_cons_zero, List.getElem?_cons_succ, List.set_cons_zero, List.set_cons_succ, exists_eq_left', exists_eq_left, exists_and_left, exists_eq', and_assoc, Option.some.injEq, List.cons.injEq, D.ty.injEq, D.bl.injEq, D.int.injEq, D.str.injEq, D.tup.injEq, D.ref.injEq, and_true, true_and]
  refine ⟨nI ns, ep, _, lstAt_some ep, nb_loop (lstAt_some ep) hm ns 0 none fun o' => ?_⟩
  unfold u_number_by_2
  simp only [sRet, sSeq, sNext, sIf, sDrop, sSet, sAsg, sPar, sPar3, sAug, sRaise, dAndV, dOrV, dNotV, dAnd, dOr, dNot, dB, dIf, dOp, dUn, dCB, dVar, dC, dNil, dCons, dTup, dLst, dChain, dCall, gNm, gTp, gsCons, gsNil, DL.gSub, nIsi, dBM, dBM0, dPart, dNoPart, dSl, dInW, dIxW, dNewK, dNewT, dRevL, dRevT, dDPop1, dItems, dLRg, iTupD, iLstD, iStrD, iEnD, iRng1D, iRng2D, oI2, oNeg, List.getElem?_cons_zero, List.getElem?_cons_succ, List.set_cons_zero, List.set_cons_succ, exists_eq_left', exists_eq_left, exists_and_left, exists_eq', and_assoc, Option.some.injEq, List.cons.injEq, D.ty.injEq, D.bl.injEq, D.int.injEq, D.str.injEq, D.tup.injEq, D.ref.injEq, and_true, true_and]
  refine i_ixT (i := 1) rfl (i_ixK ea rfl ev ?_)
  have := i_ixT (q := q) (st := st) (xs := row) (i := (place m ns).toNat) er hq
  rw [show (((place m ns).toNat : Nat) : Int) = place m ns by omega] at this
  exact this
theorem pure__law_to {Γ : Gn} {ds : List D} {st : Stt} {q : DQ} {ex : DX} (h : sp__law_to Γ ds st q ex) : t__law_to Γ (fun x _ st => ex x st) { nx := fun _ st' => q .non st', rt := q } (dstart N__law_to ds) st := pure_number_by h
/-! ### rows_of, number_rows -/
theorem pure_number_rows {Γ : Gn} {ds : List D} {st : Stt} {q : DQ} {ex : DX} (h : sp_number_rows Γ ds st q ex) : t_number_rows Γ (fun x _ st => ex x st) { nx := fun _ st' => q .non st', rt := q } (dstart N_number_rows ds) st := by
  obtain ⟨m, r, rfl, h1, h5, h3, hq⟩ := h
  show t_number_rows Γ _ _ [some (.int m), some (.int r)] st
  unfold t_number_rows
  simp only [sRet, sSeq, sNext, sIf, sDrop, sSet, sAsg, sPar, sPar3, sAug, sRaise, dAndV, dOrV, dNotV, dAnd, dOr, dNot, dB, dIf, dOp, dUn, dCB, dVar, dC, dNil, dCons, dTup, dLst, dChain, dCall, gNm, gTp, gsCons, gsNil, DL.gSub, nIsi, dBM, dBM0, dPart, dNoPart, dSl, dInW, dIxW, dNewK, dNewT, dRevL, dRevT, dDPop1, dItems, dLRg, iTupD, iLstD, iStrD, iEnD, iRng1D, iRng2D, oI2, oNeg, List.getElem?_cons_zero, List.getElem?_cons_succ, List.set_cons_zero, List.set_cons_succ, exists_eq_left', exists_eq_left, exists_and_left, exists_eq', and_assoc, Option.some.injEq, List.cons.injEq, D.ty.injEq, D.bl.injEq, D.int.injEq, D.str.injEq, D.tup.injEq, D.ref.injEq, and_true, true_and]
  refine ⟨by omega, by omega, fun b nb => ⟨by simp; decide, fun c nc => ⟨_, put_same, by omega, by omega, ?_, fun a na => ?_⟩⟩⟩
  · simp
    exact Nat.le_trans h3 (by decide)
  · have e1 : (List.replicate ((r : Int)).toNat [D.ref b]).flatten = List.replicate r (.ref b) := by
      rw [Int.toNat_natCast]
      induction r with
      | zero => rfl
      | succ n _ => rw [List.flatten_replicate_singleton]
    have e2 : (rngL 0 ((m : Int)).toNat).length = m := by unfold rngL; simp
    have nbc : b ≠ c := neq_of (put_same (st := st)) nc
    have x : Ext st (put (put (put st b (.lst (rngL 0 ((m : Int)).toNat))) c (.lst [.ref b])) a (.lst (List.replicate ((r : Int)).toNat [D.ref b]).flatten)) := ((Ext.new nb).trans (Ext.new nc)).trans (Ext.new na)
    have nba : b ≠ a := neq_of (show put (put st b (.lst (rngL 0 ((m : Int)).toNat))) c (.lst [.ref b]) b = some _ by rw [put_ne nbc]; exact put_same) na
    refine ⟨a, b, r, rngL 0 ((m : Int)).toNat, rfl, by rw [put_same, e1], by rw [put_ne nba, put_ne nbc, put_same], by omega, by omega, h3, fun st' p rows x' np e hl => hq st' p rows (x.trans x') (x.none np) e (by rw [hl, e2])⟩
end K73
/-! K6: rows_of. -/
namespace K73
open PySem PySem.Spec L2 DL
/-- tuples of n items -/
def TupN (n : Nat) (d : D) : Prop := ∃ t, d = .tup t ∧ t.length = n
section
variable {Γ : Gn} {ex : DXE} {N : DN} {a b pf pl : Addr} {bs : List D} {n i : Nat}
theorem ro_body {st : Stt} {acc t : List D} (hbl : bs.length ≤ 5) (hi : i ≤ 3) (ht : t.length = i) (hb : st b = some (.lst bs)) (hp : st pl = some (.lst acc)) (hl : acc.length ≤ 1000)
    (h : ∀ st' ys, Mov pl st st' → st' pl = some (.lst (acc ++ ys)) → ys.length = bs.length → (∀ y ∈ ys, TupN (i + 1) y) → N.nx [some (.ref a), some (.ref pf), some (.ref b), some (.ref pl), some (.tup t), none] st') :
    b_rows_of_1_1 Γ ex N [some (.ref a), some (.ref pf), some (.ref b), some (.ref pl), some (.tup t), none] st := by
  unfold b_rows_of_1_1
  simp only [sRet, sSeq, sNext, sIf, sDrop, sSet, sAsg, sPar, sPar3, sAug, sRaise, dAndV, dOrV, dNotV, dAnd, dOr, dNot, dB, dIf, dOp, dUn, dCB, dVar, dC, dNil, dCons, dTup, dLst, dChain, dCall, gNm, gTp, gsCons, gsNil, DL.gSub, nIsi, dBM, dBM0, dPart, dNoPart, dSl, dInW, dIxW, dNewK, dNewT, dRevL, dRevT, dDPop1, dItems, dLRg, iTupD, iLstD, iStrD, iEnD, iRng1D, iRng2D, oI2, oNeg, List.getElem?_cons_zero, List.getElem?_cons_succ, List.set_cons_zero, List.set_cons_succ, exists_eq_left', exists_eq_left, exists_and_left, exists_eq', and_assoc, Option.some.injEq, List.cons.injEq, D.ty.injEq, D.bl.injEq, D.int.injEq, D.str.injEq, D.tup.injEq, D.ref.injEq, and_true, true_and]
  refine ⟨i_isL hp, ?_⟩
  simp only [dLc]
  simp only [sRet, sSeq, sNext, sIf, sDrop, sSet, sAsg, sPar, sPar3, sAug, sRaise, dAndV, dOrV, dNotV, dAnd, dOr, dNot, dB, dIf, dOp, dUn, dCB, dVar, dC, dNil, dCons, dTup, dLst, dChain, dCall, gNm, gTp, gsCons, gsNil, DL.gSub, nIsi, dBM, dBM0, dPart, dNoPart, dSl, dInW, dIxW, dNewK, dNewT, dRevL, dRevT, dDPop1, dItems, dLRg, iTupD, iLstD, iStrD, iEnD, iRng1D, iRng2D, oI2, oNeg, List.getElem?_cons_zero, List.getElem?_cons_succ, List.set_cons_zero, List.set_cons_succ, exists_eq_left', exists_eq_left, exists_and_left, exists_eq', and_assoc, Option.some.injEq, List.cons.injEq, D.ty.injEq, D.bl.injEq, D.int.injEq, D.str.injEq, D.tup.injEq, D.ref.injEq, and_true, true_and]
  refine ⟨bs, hb, lcP (fun d => .tup (t ++ [d])) (fun st' x => lstAt_some (x b _ hb)) (by rw [sizeLine_eq]; omega) (fun d hd p st' acc' np x e K1 hK => ?_) fun p st' np x e => ?_⟩
  · (simp only [CT.dg, dwipe]; simp only [sRet, sSeq, sNext, sIf, sDrop, sSet, sAsg, sPar, sPar3, sAug, sRaise, dAndV, dOrV, dNotV, dAnd, dOr, dNot, dB, dIf, dOp, dUn, dCB, dVar, dC, dNil, dCons, dTup, dLst, dChain, dCall, gNm, gTp, gsCons, gsNil, DL.gSub, nIsi, dBM, dBM0, dPart, dNoPart, dSl, dInW, dIxW, dNewK, dNewT, dRevL, dRevT, dDPop1, dItems, dLRg, iTupD, iLstD, iStrD, iEnD, iRng1D, iRng2D, oI2, oNeg, List.getElem?_cons_zero, List.getElem?_cons_succ, List.set_cons_zero, List.set_cons_succ, exists_eq_left', exists_eq_left, exists_and_left, exists_eq', and_assoc, Option.some.injEq, List.cons.injEq, D.ty.injEq, D.bl.injEq, D.int.injEq, D.str.injEq, D.tup.injEq, D.ref.injEq, and_true, true_and])
    exact ⟨by rw [sizeLine_eq]; simp, by rw [sizeLine_eq]; simp; omega, hK⟩
  · refine i_extend (x pl _ hp) e (by rw [sizeLine_eq, List.length_map]; omega) (h _ _ (Mov.of x |>.put_h) put_same (by rw [List.length_map]) fun y hy => ?_)
    obtain ⟨d, _, rfl⟩ := List.mem_map.mp hy
    exact ⟨_, rfl, by simp [ht]⟩
theorem ro_inner {st1 : Stt} {chk : Stt → Prop} (hbl : bs.length ≤ 5) (hi : i ≤ 3) (hbp : b ≠ pl) (hb : st1 b = some (.lst bs)) (hc : ∀ st', Mov pl st1 st' → chk st') : ∀ (rows : List D) (acc : List D) (st : Stt) (o : Option D), (∀ r ∈ rows, TupN i r) → acc.length + rows.length * bs.length ≤ 1000 →
    (∀ y ∈ acc, TupN (i + 1) y) → Mov pl st1 st → st pl = some (.lst acc) →
    (∀ acc' st' o, acc'.length = acc.length + rows.length * bs.length → (∀ y ∈ acc', TupN (i + 1) y) → Mov pl st1 st' → st' pl = some (.lst acc') → N.nx [some (.ref a), some (.ref pf), some (.ref b), some (.ref pl), o, none] st') →
    runF chk (gNm 4) (b_rows_of_1_1 Γ ex) N rows [some (.ref a), some (.ref pf), some (.ref b), some (.ref pl), o, none] st
  | [], acc, st, o, _, _, ha, mv, e, h => h acc st o (by simp) ha mv e
  | r :: rows, acc, st, o, hr, hl, ha, mv, e, h => by
    obtain ⟨t, rfl, ht⟩ := hr r List.mem_cons_self
    rw [List.length_cons, Nat.add_mul, Nat.one_mul] at hl
    refine ro_body (Γ := Γ) (ex := ex) (acc := acc) hbl hi ht (mv b _ hbp hb) e (by omega) fun st' ys mv' e' hy hty => ?_
    refine ⟨hc _ (mv.trans mv'), ro_inner hbl hi hbp hb hc rows (acc ++ ys) st' _ (fun r hr' => hr r (List.mem_cons_of_mem _ hr')) (by rw [List.length_append, hy]; omega) (fun y hm => (List.mem_append.mp hm).elim (ha y) (hty y)) (mv.trans mv') e' fun acc' st2 o h1 h2 h3 h4 => ?_⟩
    refine h acc' st2 o ?_ h2 h3 h4
    rw [h1, List.length_append, hy, List.length_cons, Nat.add_mul, Nat.one_mul]
    omega
theorem ro_turn {st : Stt} {rows : List D} {o3 o4 : Option D} (hb1 : 1 ≤ bs.length) (hbl : bs.length ≤ 5) (hi : i < 3) (hb : st b = some (.lst bs)) (hf : st pf = some (.lst rows)) (hr : ∀ r ∈ rows, TupN i r) (hrl : rows.length = bs.length ^ i)
    (h : ∀ st' pf' rows' o2 o3 o4, Ext st st' → st pf' = none → st' pf' = some (.lst rows') → (∀ r ∈ rows', TupN (i + 1) r) → rows'.length = bs.length ^ (i + 1) → N.nx [some (.ref a), some (.ref pf'), o2, o3, o4, none] st') :
    b_rows_of_1 Γ ex N [some (.ref a), some (.ref pf), some (.ref b), o3, o4, none] st := by
  have hm : rows.length * bs.length ≤ 125 := by
    rw [hrl]
    have : bs.length ^ i ≤ 5 ^ i := Nat.pow_le_pow_left hbl i
    have : 5 ^ i ≤ 5 ^ 2 := Nat.pow_le_pow_right (by decide) (by omega)
    calc bs.length ^ i * bs.length ≤ 25 * 5 := Nat.mul_le_mul (by omega) hbl
      _ = 125 := rfl
  unfold b_rows_of_1
  simp only [sRet, sSeq, sNext, sIf, sDrop, sSet, sAsg, sPar, sPar3, sAug, sRaise, dAndV, dOrV, dNotV, dAnd, dOr, dNot, dB, dIf, dOp, dUn, dCB, dVar, dC, dNil, dCons, dTup, dLst, dChain, dCall, gNm, gTp, gsCons, gsNil, DL.gSub, nIsi, dBM, dBM0, dPart, dNoPart, dSl, dInW, dIxW, dNewK, dNewT, dRevL, dRevT, dDPop1, dItems, dLRg, iTupD, iLstD, iStrD, iEnD, iRng1D, iRng2D, oI2, oNeg, List.getElem?_cons_zero, List.getElem?_cons_succ, List.set_cons_zero, List.set_cons_succ, exists_eq_left', exists_eq_left, exists_and_left, exists_eq', and_assoc, Option.some.injEq, List.cons.injEq, D.ty.injEq, D.bl.injEq, D.int.injEq, D.str.injEq, D.tup.injEq, D.ref.injEq, and_true, true_and]
  refine ⟨by decide, fun pl np => ?_⟩
  have nbp : b ≠ pl := neq_of hb np
  have nfp : pf ≠ pl := neq_of hf np
  unfold u_rows_of_1_1
  simp only [sSeq, sFor]
  simp only [sRet, sSeq, sNext, sIf, sDrop, sSet, sAsg, sPar, sPar3, sAug, sRaise, dAndV, dOrV, dNotV, dAnd, dOr, dNot, dB, dIf, dOp, dUn, dCB, dVar, dC, dNil, dCons, dTup, dLst, dChain, dCall, gNm, gTp, gsCons, gsNil, DL.gSub, nIsi, dBM, dBM0, dPart, dNoPart, dSl, dInW, dIxW, dNewK, dNewT, dRevL, dRevT, dDPop1, dItems, dLRg, iTupD, iLstD, iStrD, iEnD, iRng1D, iRng2D, oI2, oNeg, List.getElem?_cons_zero, List.getElem?_cons_succ, List.set_cons_zero, List.set_cons_succ, exists_eq_left', exists_eq_left, exists_and_left, exists_eq', and_assoc, Option.some.injEq, List.cons.injEq, D.ty.injEq, D.bl.injEq, D.int.injEq, D.str.injEq, D.tup.injEq, D.ref.injEq, and_true, true_and]
  have e1 : put st pl (.lst []) pf = some (.lst rows) := by rw [put_ne nfp]; exact hf
  refine ⟨rows, e1, rows, lstAt_some e1, ?_⟩
  refine ro_inner (Γ := Γ) (ex := ex) (i := i) (st1 := put st pl (.lst [])) hbl (by omega) nbp (by rw [put_ne nbp]; exact hb) (fun st' mv => lstAt_some (mv pf _ nfp e1)) rows [] _ o4 hr (by simp; omega) (fun y hy => by cases hy) .refl put_same fun acc' st' o h1 h2 h3 h4 => ?_
  unfold u_rows_of_1_2
  simp only [sRet, sSeq, sNext, sIf, sDrop, sSet, sAsg, sPar, sPar3, sAug, sRaise, dAndV, dOrV, dNotV, dAnd, dOr, dNot, dB, dIf, dOp, dUn, dCB, dVar, dC, dNil, dCons, dTup, dLst, dChain, dCall, gNm, gTp, gsCons, gsNil, DL.gSub, nIsi, dBM, dBM0, dPart, dNoPart, dSl, dInW, dIxW, dNewK, dNewT, dRevL, dRevT, dDPop1, dItems, dLRg, iTupD, iLstD, iStrD, iEnD, iRng1D, iRng2D, oI2, oNeg, List.getElem?_cons_zero, List.getElem?_cons_succ, List.set_cons_zero, List.set_cons_succ, exists_eq_left', exists_eq_left, exists_and_left, exists_eq', and_assoc, Option.some.injEq, List.cons.injEq, D.ty.injEq, D.bl.injEq, D.int.injEq, D.str.injEq, D.tup.injEq, D.ref.injEq, and_true, true_and]
  refine h st' pl acc' _ _ _ (fun x u e => h3 x u (neq_of e np) (by rw [put_ne (neq_of e np)]; exact e)) np h4 h2 ?_
  rw [h1, hrl, Nat.pow_succ]
  simp
theorem ro_outer {chk : Stt → Prop} {st0 : Stt} (hb1 : 1 ≤ bs.length) (hbl : bs.length ≤ 5) (hb : st0 b = some (.lst bs)) (hc : ∀ st', Ext st0 st' → chk st') : ∀ (k i : Nat) (st : Stt) (pf : Addr) (rows : List D) (o2 o3 o4 : Option D), i + k ≤ 3 → Ext st0 st → st0 pf = none → st pf = some (.lst rows) → (∀ r ∈ rows, TupN i r) → rows.length = bs.length ^ i →
    (∀ st' pf' rows' o2 o3 o4, Ext st0 st' → st0 pf' = none → st' pf' = some (.lst rows') → rows'.length = bs.length ^ (i + k) → N.nx [some (.ref a), some (.ref pf'), o2, o3, o4, none] st') →
    runF chk (gNm 2) (b_rows_of_1 Γ ex) N (List.replicate k (.ref b)) [some (.ref a), some (.ref pf), o2, o3, o4, none] st
  | 0, i, st, pf, rows, o2, o3, o4, _, x, n0, e, hr, hl, h => h st pf rows o2 o3 o4 x n0 e hl
  | k + 1, i, st, pf, rows, o2, o3, o4, hk, x, n0, e, hr, hl, h => by
    rw [List.replicate_succ]
    refine ro_turn (Γ := Γ) (ex := ex) hb1 hbl (by omega) (x b _ hb) e hr hl fun st' pf' rows' o2 o3 o4 x' n' e' hr' hl' => ?_
    refine ⟨hc _ (x.trans x'), ro_outer hb1 hbl hb hc k (i + 1) st' pf' rows' _ _ _ (by omega) (x.trans x') (x.none n') e' hr' hl' fun st2 pf2 rows2 o2 o3 o4 x2 n2 e2 hl2 => h st2 pf2 rows2 _ _ _ x2 n2 e2 ?_⟩
    rw [hl2]
    congr 1
    omega
end
theorem pure_rows_of {Γ : Gn} {ds : List D} {st : Stt} {q : DQ} {ex : DX} (h : sp_rows_of Γ ds st q ex) : t_rows_of Γ (fun x _ st => ex x st) { nx := fun _ st' => q .non st', rt := q } (dstart N_rows_of ds) st := by
  obtain ⟨a, b, n, bs, rfl, ea, eb, h1, h5, hn, hq⟩ := h
  show t_rows_of Γ _ _ [some (.ref a), none, none, none, none, none] st
  unfold t_rows_of
  simp only [sRet, sSeq, sNext, sIf, sDrop, sSet, sAsg, sPar, sPar3, sAug, sRaise, dAndV, dOrV, dNotV, dAnd, dOr, dNot, dB, dIf, dOp, dUn, dCB, dVar, dC, dNil, dCons, dTup, dLst, dChain, dCall, gNm, gTp, gsCons, gsNil, DL.gSub, nIsi, dBM, dBM0, dPart, dNoPart, dSl, dInW, dIxW, dNewK, dNewT, dRevL, dRevT, dDPop1, dItems, dLRg, iTupD, iLstD, iStrD, iEnD, iRng1D, iRng2D, oI2, oNeg, List.getElem?_cons_zero, List.getElem?_cons_succ, List.set_cons_zero, List.set_cons_succ, exists_eq_left', exists_eq_left, exists_and_left, exists_eq', and_assoc, Option.some.injEq, List.cons.injEq, D.ty.injEq, D.bl.injEq, D.int.injEq, D.str.injEq, D.tup.injEq, D.ref.injEq, and_true, true_and]
  refine ⟨by decide, by decide, fun p np => ?_⟩
  unfold u_rows_of_1
  simp only [sSeq, sFor]
  simp only [sRet, sSeq, sNext, sIf, sDrop, sSet, sAsg, sPar, sPar3, sAug, sRaise, dAndV, dOrV, dNotV, dAnd, dOr, dNot, dB, dIf, dOp, dUn, dCB, dVar, dC, dNil, dCons, dTup, dLst, dChain, dCall, gNm, gTp, gsCons, gsNil, DL.gSub, nIsi, dBM, dBM0, dPart, dNoPart, dSl, dInW, dIxW, dNewK, dNewT, dRevL, dRevT, dDPop1, dItems, dLRg, iTupD, iLstD, iStrD, iEnD, iRng1D, iRng2D, oI2, oNeg, List.getElem?_cons_zero, List.getElem?_cons_succ, List.set_cons_zero, List.set_cons_succ, exists_eq_left', exists_eq_left, exists_and_left, exists_eq', and_assoc, Option.some.injEq, List.cons.injEq, D.ty.injEq, D.bl.injEq, D.int.injEq, D.str.injEq, D.tup.injEq, D.ref.injEq, and_true, true_and]
  have nap : a ≠ p := neq_of ea np
  have e1 : put st p (.lst [.tup []]) a = some (.lst (List.replicate n (.ref b))) := by rw [put_ne nap]; exact ea
  refine ⟨_, e1, _, lstAt_some e1, ?_⟩
  refine ro_outer (Γ := Γ) (bs := bs) (st0 := st) h1 h5 eb (fun st' x => lstAt_some (x a _ ea)) n 0 _ p [.tup []] _ _ _ (by omega) (.new np) np put_same (fun r hr => ⟨[], List.mem_singleton.mp hr, rfl⟩) (by simp) fun st' pf' rows' o2 o3 o4 x n0 e hl => ?_
  unfold u_rows_of_2
  simp only [sRet, sSeq, sNext, sIf, sDrop, sSet, sAsg, sPar, sPar3, sAug, sRaise, dAndV, dOrV, dNotV, dAnd, dOr, dNot, dB, dIf, dOp, dUn, dCB, dVar, dC, dNil, dCons, dTup, dLst, dChain, dCall, gNm, gTp, gsCons, gsNil, DL.gSub, nIsi, dBM, dBM0, dPart, dNoPart, dSl, dInW, dIxW, dNewK, dNewT, dRevL, dRevT, dDPop1, dItems, dLRg, iTupD, iLstD, iStrD, iEnD, iRng1D, iRng2D, oI2, oNeg, List.getElem?_cons_zero, List.getElem?_cons_succ, List.set_cons_zero, List.set_cons_succ, exists_eq_left', exists_eq_left, exists_and_left, exists_eq', and_assoc, Option.some.injEq, List.cons.injEq, D.ty.injEq, D.bl.injEq, D.int.injEq, D.str.injEq, D.tup.injEq, D.ref.injEq, and_true, true_and]
  exact hq st' pf' rows' x n0 e (by rw [hl, Nat.zero_add])
end K73
/-! K7: is_type. -/
namespace K73
open PySem PySem.Spec L2 DL
theorem Ty.ext {st st' : Stt} (x : Ext st st') {d : D} (h : Ty st d) : Ty st' d := by
  induction h with
  | non => exact .non
  | bl => exact .bl
  | int => exact .int
  | str => exact .str
  | tup hl _ ih => exact .tup hl ih
  | lst e => exact .lst (x _ _ e)
  | dK e _ ih => exact .dK (x _ _ e) ih
theorem i_all {st : Stt} {q : DQ} {p : Addr} {bs : List Bool} {f : List Bool → Bool} (e : st p = some (.lst (bs.map D.bl))) (h : q (.bl (f bs)) st) : nAll f [.ref p] st q := ⟨p, bs, rfl, e, h⟩
theorem t_all {st : Stt} {A : Bool → Stt → Prop} {p : Addr} {ds : List D} {g : D → Bool} (e : st p = some (.lst (ds.map fun d => .bl (g d)))) (h : A (ds.all g) st) : nAll (fun bs => bs.all id) [.ref p] st (fun x st1 => ∃ k, x = .bl k ∧ A k st1) := by
  refine i_all (bs := ds.map g) (by rw [e, List.map_map] <;> rfl) ⟨_, rfl, ?_⟩
  rw [List.all_map]
  exact h
/-! ### good -/
def ltAt (ns : List Int) (i : Nat) : Bool := decide (ns.getD i 0 < ns.getD (i + 1) 0)
theorem inc_range : ∀ ns : List Int, (List.range (ns.length - 1)).all (ltAt ns) = incF (nI ns)
  | [] => rfl
  | [_] => rfl
  | a :: b :: r => by
    have ih := inc_range (b :: r)
    show (List.range (r.length + 1)).all (ltAt (a :: b :: r)) = (decide (a < b) && incF (nI (b :: r)))
    rw [List.range_succ_eq_map, List.all_cons, List.all_map, ← ih]
    rfl
theorem all_ints {n : Int} : ∀ {xs : List D}, (xs.all fun x => inR x 0 (n - 1)) = true → ∃ ns : List Int, xs = nI ns
  | [], _ => ⟨[], rfl⟩
  | x :: xs, h => by
    rw [List.all_cons, Bool.and_eq_true] at h
    obtain ⟨ns, e⟩ := all_ints h.2
    cases x with
    | int i => exact ⟨i :: ns, by rw [e] <;> rfl⟩
    | _ => cases h.1
section
variable {Γ : Gn} {ex : DXE} {N : DN}
theorem good_5 {st : Stt} {q : DQ} {th r : Option D} {m : Nat} {ns : List Int} {o4 o5 : Option D} (hl : ns.length ≤ 1000) (hq : ∀ st', Ext st st' → q (.bl (incF (nI ns))) st') {nx : DEnv → Stt → Prop} :
    u_is_type_5 Γ ex { nx := nx, rt := q } [th, some (.int m), r, some (.tup (nI ns)), o4, o5, none, none] st := by
  unfold u_is_type_5
  simp only [sRet, sSeq, sNext, sIf, sDrop, sSet, sAsg, sPar, sPar3, sAug, sRaise, dAndV, dOrV, dNotV, dAnd, dOr, dNot, dB, dIf, dOp, dUn, dCB, dVar, dC, dNil, dCons, dTup, dLst, dChain, dCall, gNm, gTp, gsCons, gsNil, DL.gSub, nIsi, dBM, dBM0, dPart, dNoPart, dSl, dInW, dIxW, dNewK, dNewT, dRevL, dRevT, dDPop1, dItems, dLRg, iTupD, iLstD, iStrD, iEnD, iRng1D, iRng2D, oI2, oNeg, List.getElem?_cons_zero, List.getElem?_cons_succ, List.set_cons_zero, List.set_cons_succ, exists_eq_left', exists_eq_left, exists_and_left, exists_eq', and_assoc, Option.some.injEq, List.cons.injEq, D.ty.injEq, D.bl.injEq, D.int.injEq, D.str.injEq, D.tup.injEq, D.ref.injEq, and_true, true_and]
  simp only [dLc]
  simp only [sRet, sSeq, sNext, sIf, sDrop, sSet, sAsg, sPar, sPar3, sAug, sRaise, dAndV, dOrV, dNotV, dAnd, dOr, dNot, dB, dIf, dOp, dUn, dCB, dVar, dC, dNil, dCons, dTup, dLst, dChain, dCall, gNm, gTp, gsCons, gsNil, DL.gSub, nIsi, dBM, dBM0, dPart, dNoPart, dSl, dInW, dIxW, dNewK, dNewT, dRevL, dRevT, dDPop1, dItems, dLRg, iTupD, iLstD, iStrD, iEnD, iRng1D, iRng2D, oI2, oNeg, List.getElem?_cons_zero, List.getElem?_cons_succ, List.set_cons_zero, List.set_cons_succ, exists_eq_left', exists_eq_left, exists_and_left, exists_eq', and_assoc, Option.some.injEq, List.cons.injEq, D.ty.injEq, D.bl.injEq, D.int.injEq, D.str.injEq, D.tup.injEq, D.ref.injEq, and_true, true_and]
  have hln : (nI ns).length = ns.length := by unfold nI; simp
  refine i_lenT ⟨_, rfl, by decide, by decide, by rw [hln]; omega, by rw [hln]; omega, ?_⟩
  have en : ((((nI ns).length : Nat) : Int) - 1).toNat = ns.length - 1 := by rw [hln]; omega
  rw [en]
  refine lcPc (fun d => match d with
    | .int j => .bl (ltAt ns (j - 1).toNat)
    | _ => .non) (by unfold rngL; rw [sizeLine_eq]; simp; omega) (fun d hd p st' acc np x e K1 hK => ?_) fun p st' np x e => ?_
  · unfold rngL at hd
    obtain ⟨i, hi, rfl⟩ := List.mem_map.mp hd
    have hi := List.mem_range.mp hi
    (simp only [CT.dg, dwipe]; simp only [sRet, sSeq, sNext, sIf, sDrop, sSet, sAsg, sPar, sPar3, sAug, sRaise, dAndV, dOrV, dNotV, dAnd, dOr, dNot, dB, dIf, dOp, dUn, dCB, dVar, dC, dNil, dCons, dTup, dLst, dChain, dCall, gNm, gTp, gsCons, gsNil, DL.gSub, nIsi, dBM, dBM0, dPart, dNoPart, dSl, dInW, dIxW, dNewK, dNewT, dRevL, dRevT, dDPop1, dItems, dLRg, iTupD, iLstD, iStrD, iEnD, iRng1D, iRng2D, oI2, oNeg, List.getElem?_cons_zero, List.getElem?_cons_succ, List.set_cons_zero, List.set_cons_succ, exists_eq_left', exists_eq_left, exists_and_left, exists_eq', and_assoc, Option.some.injEq, List.cons.injEq, D.ty.injEq, D.bl.injEq, D.int.injEq, D.str.injEq, D.tup.injEq, D.ref.injEq, and_true, true_and])
    have e1 : (1 + (i : Int) - 1) = ((i : Nat) : Int) := by omega
    have e2 : (1 + (i : Int)) = ((i + 1 : Nat) : Int) := by omega
    show oIx _ (.int (1 + (i : Int) - 1)) _ _
    rw [e1]
    refine i_ixT (d := .int (ns.getD i 0)) (by unfold nI; rw [List.getElem?_map, List.getD_eq_getElem?_getD]; rw [List.getElem?_eq_getElem (by omega)] <;> rfl) ?_
    rw [e2]
    refine i_ixT (d := .int (ns.getD (i + 1) 0)) (by unfold nI; rw [List.getElem?_map, List.getD_eq_getElem?_getD]; rw [List.getElem?_eq_getElem (by omega)] <;> rfl) ?_
    have e3 : (((i + 1 : Nat) : Int) - 1).toNat = i := by omega
    simp only [e2, e3] at hK
    exact hK
  · refine i_all (bs := (List.range (ns.length - 1)).map (ltAt ns)) ?_ ?_
    · rw [e]
      unfold rngL
      rw [List.map_map, List.map_map]
      congr 2
      refine List.map_congr_left fun i _ => ?_
      have e3 : (1 + (i : Int) - 1).toNat = i := by omega
      simp only [Function.comp, e3]
    · have := hq st' x
      rw [← inc_range] at this
      rw [List.all_map]
      exact this
theorem wi_all {st : Stt} {A : Bool → Stt → Prop} {δ : DEnv} {xs : List D} {m : Nat} (hm : δ[1]? = some (some (.int m))) (hl : xs.length ≤ 1000) (hx : ∀ d ∈ xs, Ty st d) (h6 : 6 < δ.length) (h : ∀ st', Ext st st' → A (xs.all fun x => inR x 0 ((m : Int) - 1)) st') :
    ∀ p, st p = none → runC (fun _ => True) (.one 6) tYesD (dCall (sp_is_within Γ) noX (dCons (dVar 6) (dCons (dC (.int 0)) (dCons (dOp oSub (dVar 1) (dC (.int 1))) dNil)))) p
      (fun st2 => nAll (fun bs => bs.all id) [.ref p] st2 fun x st1 => ∃ k, x = .bl k ∧ A k st1) xs (dwipe δ [6]) (put st p (.lst [])) := by
  refine lcPc (fun d => .bl (inR d 0 ((m : Int) - 1))) (by rw [sizeLine_eq]; omega) (fun d hd p st' acc np x e K1 hK => ?_) fun p st' np x e => t_all e (h st' x)
  have e6 : ((δ.set 6 none).set 6 (some d))[6]? = some (some d) := by rw [List.getElem?_set_self (by simpa using h6)]
  have e1 : ((δ.set 6 none).set 6 (some d))[1]? = some (some (.int m)) := by rw [List.getElem?_set_ne (by decide), List.getElem?_set_ne (by decide)]; exact hm
  (simp only [CT.dg, dwipe]; simp only [sRet, sSeq, sNext, sIf, sDrop, sSet, sAsg, sPar, sPar3, sAug, sRaise, dAndV, dOrV, dNotV, dAnd, dOr, dNot, dB, dIf, dOp, dUn, dCB, dVar, dC, dNil, dCons, dTup, dLst, dChain, dCall, gNm, gTp, gsCons, gsNil, DL.gSub, nIsi, dBM, dBM0, dPart, dNoPart, dSl, dInW, dIxW, dNewK, dNewT, dRevL, dRevT, dDPop1, dItems, dLRg, iTupD, iLstD, iStrD, iEnD, iRng1D, iRng2D, oI2, oNeg, List.getElem?_cons_zero, List.getElem?_cons_succ, List.set_cons_zero, List.set_cons_succ, exists_eq_left', exists_eq_left, exists_and_left, exists_eq', and_assoc, Option.some.injEq, List.cons.injEq, D.ty.injEq, D.bl.injEq, D.int.injEq, D.str.injEq, D.tup.injEq, D.ref.injEq, and_true, true_and])
  exact ⟨d, e6, .int m, e1, trivial, d, 0, _, rfl, (hx d hd).ext x, hK⟩
theorem good_4 {st : Stt} {q : DQ} {th r : Option D} {m : Nat} {g : D} {o4 o5 : Option D} (hg : Ty st g) (hq : ∀ st', Ext st st' → q (.bl (goodF m g)) st') {nx : DEnv → Stt → Prop} :
    u_is_type_4 Γ ex { nx := nx, rt := q } [th, some (.int m), r, some g, o4, o5, none, none] st := by
  unfold u_is_type_4
  simp only [sRet, sSeq, sNext, sIf, sDrop, sSet, sAsg, sPar, sPar3, sAug, sRaise, dAndV, dOrV, dNotV, dAnd, dOr, dNot, dB, dIf, dOp, dUn, dCB, dVar, dC, dNil, dCons, dTup, dLst, dChain, dCall, gNm, gTp, gsCons, gsNil, DL.gSub, nIsi, dBM, dBM0, dPart, dNoPart, dSl, dInW, dIxW, dNewK, dNewT, dRevL, dRevT, dDPop1, dItems, dLRg, iTupD, iLstD, iStrD, iEnD, iRng1D, iRng2D, oI2, oNeg, List.getElem?_cons_zero, List.getElem?_cons_succ, List.set_cons_zero, List.set_cons_succ, exists_eq_left', exists_eq_left, exists_and_left, exists_eq', and_assoc, Option.some.injEq, List.cons.injEq, D.ty.injEq, D.bl.injEq, D.int.injEq, D.str.injEq, D.tup.injEq, D.ref.injEq, and_true, true_and]
  simp only [dLc]
  simp only [sRet, sSeq, sNext, sIf, sDrop, sSet, sAsg, sPar, sPar3, sAug, sRaise, dAndV, dOrV, dNotV, dAnd, dOr, dNot, dB, dIf, dOp, dUn, dCB, dVar, dC, dNil, dCons, dTup, dLst, dChain, dCall, gNm, gTp, gsCons, gsNil, DL.gSub, nIsi, dBM, dBM0, dPart, dNoPart, dSl, dInW, dIxW, dNewK, dNewT, dRevL, dRevT, dDPop1, dItems, dLRg, iTupD, iLstD, iStrD, iEnD, iRng1D, iRng2D, oI2, oNeg, List.getElem?_cons_zero, List.getElem?_cons_succ, List.set_cons_zero, List.set_cons_succ, exists_eq_left', exists_eq_left, exists_and_left, exists_eq', and_assoc, Option.some.injEq, List.cons.injEq, D.ty.injEq, D.bl.injEq, D.int.injEq, D.str.injEq, D.tup.injEq, D.ref.injEq, and_true, true_and]
  obtain ⟨t, ht⟩ := ty_of hg
  refine ⟨by decide, t, ht, ?_⟩
  rcases isa_tup hg ht with ⟨h1, xs, rfl, hl, hx⟩ | ⟨h1, h2⟩
  · rw [h1, if_neg (by decide)]
    refine ⟨xs, rfl, ?_⟩
    refine wi_all (Γ := Γ) (δ := [th, some (.int m), r, some (.tup xs), o4, o5, none, none]) (m := m) rfl hl hx (by simp) (A := fun b st1 => if (!b) = true then q (.bl false) st1 else _) fun st' x => ?_
    cases e : xs.all fun x => inR x 0 ((m : Int) - 1) with
    | false =>
      have := hq st' x
      simp only [goodF, e] at this
      exact this
    | true =>
      rw [if_neg (by decide)]
      obtain ⟨ns, rfl⟩ := all_ints e
      refine good_5 (by unfold nI at hl; simpa using hl) fun st2 x2 => ?_
      have := hq st2 (x.trans x2)
      simp only [goodF, e] at this
      exact this
  · rw [h1, if_pos (by decide), if_pos trivial]
    have := hq st .refl
    have e : goodF m g = false := by
      cases g with
      | tup xs => exact absurd rfl (h2 xs)
      | _ => rfl
    rw [e] at this
    exact this
/-! ### one sign -/
theorem turn_sign {st : Stt} {rt : DQ} {nx bk ct : DEnv → Stt → Prop} {th g : Option D} {m : Nat} {a : Addr} {kvs : List (Key × D)} {x : Str} {told : D} {o5 : Option D} (h1 : 1 ≤ m) (h5 : m ≤ 5) (ea : st a = some (.dK kvs)) (ev : valD kvs (.inr x) = some told) (hx : x ∈ SGs)
    (ht : Ty st told) (hq : ∀ st' o, Ext st st' → if rowF m (m ^ rk x) told = true then nx [th, some (.int m), some (.ref a), g, some (.str x), o, none, none] st' else rt (.bl false) st') :
    b_is_type_3 Γ ex { nx := nx, rt := rt, bk := bk, ct := ct } [th, some (.int m), some (.ref a), g, some (.str x), o5, none, none] st := by
  have hr : ∃ r : Nat, RK.lookup x = some (r : Int) ∧ rk x = r ∧ r ≤ 3 := by
    have key : ∀ y ∈ SGs, ∃ r : Nat, RK.lookup y = some (r : Int) ∧ rk y = r ∧ r ≤ 3 := by
      intro y hy
      simp only [SGs, List.mem_cons, List.not_mem_nil, or_false] at hy
      rcases hy with rfl | rfl | rfl | rfl | rfl | rfl | rfl | rfl
      · exact ⟨0, by decide +kernel, by decide +kernel, by decide⟩
      · exact ⟨0, by decide +kernel, by decide +kernel, by decide⟩
      · exact ⟨0, by decide +kernel, by decide +kernel, by decide⟩
      · exact ⟨2, by decide +kernel, by decide +kernel, by decide⟩
      · exact ⟨2, by decide +kernel, by decide +kernel, by decide⟩
      · exact ⟨3, by decide +kernel, by decide +kernel, by decide⟩
      · exact ⟨1, by decide +kernel, by decide +kernel, by decide⟩
      · exact ⟨1, by decide +kernel, by decide +kernel, by decide⟩
    exact key x hx
  obtain ⟨r, er, ek, hr3⟩ := hr
  unfold b_is_type_3
  simp only [sRet, sSeq, sNext, sIf, sDrop, sSet, sAsg, sPar, sPar3, sAug, sRaise, dAndV, dOrV, dNotV, dAnd, dOr, dNot, dB, dIf, dOp, dUn, dCB, dVar, dC, dNil, dCons, dTup, dLst, dChain, dCall, gNm, gTp, gsCons, gsNil, DL.gSub, nIsi, dBM, dBM0, dPart, dNoPart, dSl, dInW, dIxW, dNewK, dNewT, dRevL, dRevT, dDPop1, dItems, dLRg, iTupD, iLstD, iStrD, iEnD, iRng1D, iRng2D, oI2, oNeg, List.getElem?_cons_zero, List.getElem?_cons_succ, List.set_cons_zero, List.set_cons_succ, exists_eq_left', exists_eq_left, exists_and_left, exists_eq', and_assoc, Option.some.injEq, List.cons.injEq, D.ty.injEq, D.bl.injEq, D.int.injEq, D.str.injEq, D.tup.injEq, D.ref.injEq, and_true, true_and]
  refine i_ixK ea rfl ev ?_
  unfold u_is_type_3_1
  simp only [sRet, sSeq, sNext, sIf, sDrop, sSet, sAsg, sPar, sPar3, sAug, sRaise, dAndV, dOrV, dNotV, dAnd, dOr, dNot, dB, dIf, dOp, dUn, dCB, dVar, dC, dNil, dCons, dTup, dLst, dChain, dCall, gNm, gTp, gsCons, gsNil, DL.gSub, nIsi, dBM, dBM0, dPart, dNoPart, dSl, dInW, dIxW, dNewK, dNewT, dRevL, dRevT, dDPop1, dItems, dLRg, iTupD, iLstD, iStrD, iEnD, iRng1D, iRng2D, oI2, oNeg, List.getElem?_cons_zero, List.getElem?_cons_succ, List.set_cons_zero, List.set_cons_succ, exists_eq_left', exists_eq_left, exists_and_left, exists_eq', and_assoc, Option.some.injEq, List.cons.injEq, D.ty.injEq, D.bl.injEq, D.int.injEq, D.str.injEq, D.tup.injEq, D.ref.injEq, and_true, true_and]
  obtain ⟨t, htt⟩ := ty_of ht
  refine ⟨by decide, t, htt, ?_⟩
  rcases isa_tup ht htt with ⟨h1', xs, rfl, hxl, hxs⟩ | ⟨h1', h2⟩
  · rw [h1', if_neg (by decide)]
    refine i_lenT ⟨r, er, m, r, rfl, h1, h5, hr3, fun st' p rows x' np e hrl => i_lenL e (t_neI ?_)⟩
    rw [hrl]
    by_cases e2 : xs.length = m ^ r
    · rw [if_neg (by rw [e2]; simp)]
      unfold u_is_type_3_2
      simp only [sRet, sSeq, sNext, sIf, sDrop, sSet, sAsg, sPar, sPar3, sAug, sRaise, dAndV, dOrV, dNotV, dAnd, dOr, dNot, dB, dIf, dOp, dUn, dCB, dVar, dC, dNil, dCons, dTup, dLst, dChain, dCall, gNm, gTp, gsCons, gsNil, DL.gSub, nIsi, dBM, dBM0, dPart, dNoPart, dSl, dInW, dIxW, dNewK, dNewT, dRevL, dRevT, dDPop1, dItems, dLRg, iTupD, iLstD, iStrD, iEnD, iRng1D, iRng2D, oI2, oNeg, List.getElem?_cons_zero, List.getElem?_cons_succ, List.set_cons_zero, List.set_cons_succ, exists_eq_left', exists_eq_left, exists_and_left, exists_eq', and_assoc, Option.some.injEq, List.cons.injEq, D.ty.injEq, D.bl.injEq, D.int.injEq, D.str.injEq, D.tup.injEq, D.ref.injEq, and_true, true_and]
      simp only [dLc]
      simp only [sRet, sSeq, sNext, sIf, sDrop, sSet, sAsg, sPar, sPar3, sAug, sRaise, dAndV, dOrV, dNotV, dAnd, dOr, dNot, dB, dIf, dOp, dUn, dCB, dVar, dC, dNil, dCons, dTup, dLst, dChain, dCall, gNm, gTp, gsCons, gsNil, DL.gSub, nIsi, dBM, dBM0, dPart, dNoPart, dSl, dInW, dIxW, dNewK, dNewT, dRevL, dRevT, dDPop1, dItems, dLRg, iTupD, iLstD, iStrD, iEnD, iRng1D, iRng2D, oI2, oNeg, List.getElem?_cons_zero, List.getElem?_cons_succ, List.set_cons_zero, List.set_cons_succ, exists_eq_left', exists_eq_left, exists_and_left, exists_eq', and_assoc, Option.some.injEq, List.cons.injEq, D.ty.injEq, D.bl.injEq, D.int.injEq, D.str.injEq, D.tup.injEq, D.ref.injEq, and_true, true_and]
      refine wi_all (Γ := Γ) (δ := [th, some (.int m), some (.ref a), g, some (.str x), some (.tup xs), none, none]) (m := m) rfl hxl (fun d hd => (hxs d hd).ext x') (by simp) (A := fun b st1 => if (!b) = true then rt (.bl false) st1 else _) fun st2 x2 => ?_
      have := hq st2 (some (.tup xs)) (x'.trans x2)
      rw [ek] at this
      have e3 : rowF m (m ^ r) (.tup xs) = xs.all fun x => inR x 0 ((m : Int) - 1) := by simp only [rowF, e2, decide_true, Bool.true_and]
      rw [e3] at this
      cases e : xs.all fun x => inR x 0 ((m : Int) - 1) with
      | false => rw [e] at this; exact this
      | true => rw [e] at this; exact this
    · rw [if_pos (by simpa using fun z => e2 (by exact_mod_cast z))]
      have := hq st' none x'
      rw [ek] at this
      have e3 : rowF m (m ^ r) (.tup xs) = false := by simp only [rowF, e2, decide_false, Bool.false_and]
      rw [e3] at this
      exact this
  · rw [h1', if_pos (by decide)]
    rw [if_pos trivial]
    have := hq st none .refl
    have e : rowF m (m ^ rk x) told = false := by
      cases told with
      | tup xs => exact absurd rfl (h2 xs)
      | _ => rfl
    rw [e] at this
    exact this
end
end K73
/-! K8: is_type, is_tree. -/
namespace K73
open PySem PySem.Spec L2 DL
def okS (m : Nat) (kvs : List (Key × D)) (x : Str) : Bool := match valD kvs (.inr x) with
  | some r => rowF m (m ^ rk x) r
  | none => false
theorem signs_eq : signsL "abcfghst" = SGs.map D.str := by
  have e : (Str.ofString "abcfghst").cps.toList = [97, 98, 99, 102, 103, 104, 115, 116] := by decide +kernel
  have e1 : Str.ofString "a" = ⟨#[97]⟩ := by decide +kernel
  have e2 : Str.ofString "b" = ⟨#[98]⟩ := by decide +kernel
  have e3 : Str.ofString "c" = ⟨#[99]⟩ := by decide +kernel
  have e4 : Str.ofString "f" = ⟨#[102]⟩ := by decide +kernel
  have e5 : Str.ofString "g" = ⟨#[103]⟩ := by decide +kernel
  have e6 : Str.ofString "h" = ⟨#[104]⟩ := by decide +kernel
  have e7 : Str.ofString "s" = ⟨#[115]⟩ := by decide +kernel
  have e8 : Str.ofString "t" = ⟨#[116]⟩ := by decide +kernel
  unfold signsL SGs
  rw [e, e1, e2, e3, e4, e5, e6, e7, e8]
  rfl
section
variable {Γ : Gn} {ex : DXE}
theorem signs_loop {rt : DQ} {nx bk ct : DEnv → Stt → Prop} {chk : Stt → Prop} {th g : Option D} {m : Nat} {a : Addr} {kvs : List (Key × D)} (h1 : 1 ≤ m) (h5 : m ≤ 5) (hc : ∀ st, chk st) : ∀ (xs : List Str) (o4 o5 : Option D) (st : Stt), (∀ x ∈ xs, x ∈ SGs ∧ ∃ told, valD kvs (.inr x) = some told ∧ Ty st told) → st a = some (.dK kvs) →
    (∀ st' o4 o5, Ext st st' → if xs.all (okS m kvs) = true then nx [th, some (.int m), some (.ref a), g, o4, o5, none, none] st' else rt (.bl false) st') →
    runF chk (gNm 4) (b_is_type_3 Γ ex) { nx := nx, rt := rt, bk := bk, ct := ct } (xs.map D.str) [th, some (.int m), some (.ref a), g, o4, o5, none, none] st
  | [], o4, o5, st, _, _, h => by
    have t := h st o4 o5 .refl
    simp only [List.all_nil, if_true] at t
    exact t
  | x :: xs, o4, o5, st, hx, ea, h => by
    obtain ⟨hs, told, ev, ht⟩ := hx x List.mem_cons_self
    refine turn_sign (Γ := Γ) (ex := ex) (o5 := o5) h1 h5 ea ev hs ht fun st' o x' => ?_
    have eo : okS m kvs x = rowF m (m ^ rk x) told := by unfold okS; rw [ev]
    cases e : rowF m (m ^ rk x) told with
    | false =>
      rw [if_neg (by decide)]
      have := h st' none none x'
      rw [List.all_cons, eo, e] at this
      exact this
    | true =>
      rw [if_pos rfl]
      refine ⟨hc _, signs_loop h1 h5 hc xs _ o st' (fun y hy => ?_) (x' a _ ea) fun st2 o4 o5 x2 => ?_⟩
      · obtain ⟨h1, t, h2, h3⟩ := hx y (List.mem_cons_of_mem _ hy)
        exact ⟨h1, t, h2, h3.ext x'⟩
      · have := h st2 o4 o5 (x'.trans x2)
        rw [List.all_cons, eo, e, Bool.true_and] at this
        exact this
theorem valD_mem {κ : Type} [DecidableEq κ] {k : κ} {d : D} : ∀ {kvs : List (κ × D)}, valD kvs k = some d → (k, d) ∈ kvs
  | [], h => by cases h
  | (k1, d1) :: r, h => by
    unfold valD at h
    split at h
    · rename_i e; cases h; rw [e]; exact List.mem_cons_self
    · exact List.mem_cons_of_mem _ (valD_mem h)
theorem lenSG : (Str.ofString "abcfghst").length = 8 := by decide +kernel
theorem pure_is_type {ds : List D} {st : Stt} {q : DQ} {ex : DX} (h : sp_is_type Γ ds st q ex) : t_is_type Γ (fun x _ st => ex x st) { nx := fun _ st' => q .non st', rt := q } (dstart N_is_type ds) st := by
  obtain ⟨d, rfl, hd, hq⟩ := h
  show t_is_type Γ _ _ [some d, none, none, none, none, none, none, none] st
  unfold t_is_type
  simp only [sRet, sSeq, sNext, sIf, sDrop, sSet, sAsg, sPar, sPar3, sAug, sRaise, dAndV, dOrV, dNotV, dAnd, dOr, dNot, dB, dIf, dOp, dUn, dCB, dVar, dC, dNil, dCons, dTup, dLst, dChain, dCall, gNm, gTp, gsCons, gsNil, DL.gSub, nIsi, dBM, dBM0, dPart, dNoPart, dSl, dInW, dIxW, dNewK, dNewT, dRevL, dRevT, dDPop1, dItems, dLRg, iTupD, iLstD, iStrD, iEnD, iRng1D, iRng2D, oI2, oNeg, List.getElem?_cons_zero, List.getElem?_cons_succ, List.set_cons_zero, List.set_cons_succ, exists_eq_left', exists_eq_left, exists_and_left, exists_eq', and_assoc, Option.some.injEq, List.cons.injEq, D.ty.injEq, D.bl.injEq, D.int.injEq, D.str.injEq, D.tup.injEq, D.ref.injEq, and_true, true_and]
  obtain ⟨t, ht⟩ := ty_of hd
  refine ⟨by decide, t, ht, ?_⟩
  rcases isa_tup hd ht with ⟨h1, xs, rfl, hl, hx⟩ | ⟨h1, h2⟩
  rotate_left
  · rw [h1, if_pos (by decide), if_pos trivial]
    have := hq st .refl
    have e : isTypeF st d = false := by
      cases d with
      | tup xs => exact absurd rfl (h2 xs)
      | _ => rfl
    rw [e] at this
    exact this
  rw [h1, if_neg (by decide)]
  refine i_lenT (t_neI ?_)
  by_cases e3 : xs.length = 3
  rotate_left
  · rw [if_pos (by simp; omega), if_pos trivial]
    have := hq st .refl
    have e : isTypeF st (.tup xs) = false := by
      match xs, e3 with
      | [], _ => rfl
      | [_], _ => rfl
      | [_, _], _ => rfl
      | _ :: _ :: _ :: _ :: _, _ => rfl
      | [_, _, _], h => exact absurd rfl h
    rw [e] at this
    exact this
  rw [if_neg (by simp; omega)]
  obtain ⟨n, r, g, rfl⟩ : ∃ n r g, xs = [n, r, g] := by
    match xs, e3 with
    | [n, r, g], _ => exact ⟨n, r, g, rfl⟩
  have tn := hx n (by simp)
  have tr := hx r (by simp)
  have tg := hx g (by simp)
  refine i_ixT (i := 0) rfl ⟨n, 1, 5, rfl, tn, _, rfl, ?_⟩
  cases en : inR n 1 5 with
  | false =>
    have := hq st .refl
    have e : isTypeF st (.tup [n, r, g]) = false := by simp only [isTypeF, en, Bool.false_and]
    rw [e] at this
    exact this
  | true =>
    obtain ⟨i, rfl⟩ : ∃ i, n = .int i := by cases n <;> first | exact ⟨_, rfl⟩ | cases en
    simp only [inR, Bool.and_eq_true, decide_eq_true_eq] at en
    obtain ⟨m, rfl⟩ : ∃ m : Nat, i = m := ⟨i.toNat, by omega⟩
    have hm1 : 1 ≤ m := by omega
    have hm5 : m ≤ 5 := by omega
    have enn : inR (.int m) 1 5 = true := by simp only [inR, Bool.and_eq_true, decide_eq_true_eq]; exact en
    have hT : ∀ st', isTypeF st' (.tup [.int m, r, g]) = (rulesF st' m r && goodF m g) := fun st' => by simp only [isTypeF, enn, Bool.true_and]
    rw [hT] at hq
    show u_is_type_1 Γ _ _ [some (.tup [.int m, r, g]), none, none, none, none, none, none, none] st
    unfold u_is_type_1
    simp only [sRet, sSeq, sNext, sIf, sDrop, sSet, sAsg, sPar, sPar3, sAug, sRaise, dAndV, dOrV, dNotV, dAnd, dOr, dNot, dB, dIf, dOp, dUn, dCB, dVar, dC, dNil, dCons, dTup, dLst, dChain, dCall, gNm, gTp, gsCons, gsNil, DL.gSub, nIsi, dBM, dBM0, dPart, dNoPart, dSl, dInW, dIxW, dNewK, dNewT, dRevL, dRevT, dDPop1, dItems, dLRg, iTupD, iLstD, iStrD, iEnD, iRng1D, iRng2D, oI2, oNeg, List.getElem?_cons_zero, List.getElem?_cons_succ, List.set_cons_zero, List.set_cons_succ, exists_eq_left', exists_eq_left, exists_and_left, exists_eq', and_assoc, Option.some.injEq, List.cons.injEq, D.ty.injEq, D.bl.injEq, D.int.injEq, D.str.injEq, D.tup.injEq, D.ref.injEq, and_true, true_and]
    refine ⟨rfl, ?_⟩
    unfold u_is_type_2
    simp only [sRet, sSeq, sNext, sIf, sDrop, sSet, sAsg, sPar, sPar3, sAug, sRaise, dAndV, dOrV, dNotV, dAnd, dOr, dNot, dB, dIf, dOp, dUn, dCB, dVar, dC, dNil, dCons, dTup, dLst, dChain, dCall, gNm, gTp, gsCons, gsNil, DL.gSub, nIsi, dBM, dBM0, dPart, dNoPart, dSl, dInW, dIxW, dNewK, dNewT, dRevL, dRevT, dDPop1, dItems, dLRg, iTupD, iLstD, iStrD, iEnD, iRng1D, iRng2D, oI2, oNeg, List.getElem?_cons_zero, List.getElem?_cons_succ, List.set_cons_zero, List.set_cons_succ, exists_eq_left', exists_eq_left, exists_and_left, exists_eq', and_assoc, Option.some.injEq, List.cons.injEq, D.ty.injEq, D.bl.injEq, D.int.injEq, D.str.injEq, D.tup.injEq, D.ref.injEq, and_true, true_and]
    simp only [dLc]
    simp only [sRet, sSeq, sNext, sIf, sDrop, sSet, sAsg, sPar, sPar3, sAug, sRaise, dAndV, dOrV, dNotV, dAnd, dOr, dNot, dB, dIf, dOp, dUn, dCB, dVar, dC, dNil, dCons, dTup, dLst, dChain, dCall, gNm, gTp, gsCons, gsNil, DL.gSub, nIsi, dBM, dBM0, dPart, dNoPart, dSl, dInW, dIxW, dNewK, dNewT, dRevL, dRevT, dDPop1, dItems, dLRg, iTupD, iLstD, iStrD, iEnD, iRng1D, iRng2D, oI2, oNeg, List.getElem?_cons_zero, List.getElem?_cons_succ, List.set_cons_zero, List.set_cons_succ, exists_eq_left', exists_eq_left, exists_and_left, exists_eq', and_assoc, Option.some.injEq, List.cons.injEq, D.ty.injEq, D.bl.injEq, D.int.injEq, D.str.injEq, D.tup.injEq, D.ref.injEq, and_true, true_and]
    obtain ⟨t2, ht2⟩ := ty_of tr
    refine ⟨by decide, t2, ht2, ?_⟩
    rcases isa_dict tr ht2 with ⟨k1, a, kvs, rfl, ea, hk⟩ | ⟨k1, k2⟩
    rotate_left
    · rw [k1, if_pos (by decide), if_pos trivial]
      have := hq st .refl
      have e : rulesF st m r = false := by
        cases r with
        | ref a =>
          cases e : st a with
          | none => simp only [rulesF, e]
          | some o =>
            cases o with
            | dK kvs => exact absurd e (k2 a kvs rfl)
            | _ => simp only [rulesF, e]
        | _ => rfl
      rw [e] at this
      exact this
    rw [k1, if_neg (by decide)]
    refine i_lenK ea (i_lenS (by rw [lenSG]; decide) (t_neI ?_))
    rw [lenSG]
    have eR : rulesF st m (.ref a) = (decide (kvs.length = 8) && ((SGs.all fun x => (valD kvs (.inr x)).isSome) && SGs.all (okS m kvs))) := by
      simp only [rulesF, ea, Int.toNat_natCast]
      rfl
    rw [eR] at hq
    by_cases e8 : kvs.length = 8
    rotate_left
    · rw [if_pos (by simp; omega), if_pos trivial]
      have := hq st .refl
      rw [decide_eq_false e8] at this
      exact this
    rw [if_neg (by simp; omega)]
    rw [decide_eq_true e8, Bool.true_and] at hq
    rw [signs_eq]
    refine lcPc (fun d => .bl (match d with
      | .str x => (valD kvs (.inr x)).isSome
      | _ => false)) (by decide) (fun d hd p st' acc np x e K1 hK => ?_) fun p st' np x e => ?_
    · obtain ⟨z, _, rfl⟩ := List.mem_map.mp hd
      (simp only [CT.dg, dwipe]; simp only [sRet, sSeq, sNext, sIf, sDrop, sSet, sAsg, sPar, sPar3, sAug, sRaise, dAndV, dOrV, dNotV, dAnd, dOr, dNot, dB, dIf, dOp, dUn, dCB, dVar, dC, dNil, dCons, dTup, dLst, dChain, dCall, gNm, gTp, gsCons, gsNil, DL.gSub, nIsi, dBM, dBM0, dPart, dNoPart, dSl, dInW, dIxW, dNewK, dNewT, dRevL, dRevT, dDPop1, dItems, dLRg, iTupD, iLstD, iStrD, iEnD, iRng1D, iRng2D, oI2, oNeg, List.getElem?_cons_zero, List.getElem?_cons_succ, List.set_cons_zero, List.set_cons_succ, exists_eq_left', exists_eq_left, exists_and_left, exists_eq', and_assoc, Option.some.injEq, List.cons.injEq, D.ty.injEq, D.bl.injEq, D.int.injEq, D.str.injEq, D.tup.injEq, D.ref.injEq, and_true, true_and])
      exact i_inK (x a _ ea) rfl (by simpa using hK)
    refine t_all (g := fun d => match d with
      | .str x => (valD kvs (.inr x)).isSome
      | _ => false) e ?_
    have eall : ((SGs.map D.str).all fun d => match d with
      | .str x => (valD kvs (.inr x)).isSome
      | _ => false) = SGs.all fun x => (valD kvs (.inr x)).isSome := by rw [List.all_map] <;> rfl
    rw [eall]
    cases es : SGs.all fun x => (valD kvs (.inr x)).isSome with
    | false =>
      have := hq st' x
      rw [es] at this
      exact this
    | true =>
      rw [es, Bool.true_and] at hq
      rw [if_neg (by decide)]
      unfold u_is_type_3
      simp only [sSeq, sFor]
      simp only [sRet, sSeq, sNext, sIf, sDrop, sSet, sAsg, sPar, sPar3, sAug, sRaise, dAndV, dOrV, dNotV, dAnd, dOr, dNot, dB, dIf, dOp, dUn, dCB, dVar, dC, dNil, dCons, dTup, dLst, dChain, dCall, gNm, gTp, gsCons, gsNil, DL.gSub, nIsi, dBM, dBM0, dPart, dNoPart, dSl, dInW, dIxW, dNewK, dNewT, dRevL, dRevT, dDPop1, dItems, dLRg, iTupD, iLstD, iStrD, iEnD, iRng1D, iRng2D, oI2, oNeg, List.getElem?_cons_zero, List.getElem?_cons_succ, List.set_cons_zero, List.set_cons_succ, exists_eq_left', exists_eq_left, exists_and_left, exists_eq', and_assoc, Option.some.injEq, List.cons.injEq, D.ty.injEq, D.bl.injEq, D.int.injEq, D.str.injEq, D.tup.injEq, D.ref.injEq, and_true, true_and]
      rw [signs_eq]
      refine signs_loop (Γ := Γ) hm1 hm5 (fun _ => by first | trivial | rfl) SGs _ _ st' (fun y hy => ⟨hy, ?_⟩) (x a _ ea) fun st2 o4 o5 x2 => ?_
      · have h2 := List.all_eq_true.mp es y hy
        cases e : valD kvs (.inr y) with
        | none => rw [e] at h2; cases h2
        | some told => exact ⟨told, rfl, (hk _ (valD_mem e)).ext x⟩
      · cases ek : SGs.all (okS m kvs) with
        | false =>
          rw [if_neg (by decide)]
          have := hq st2 (x.trans x2)
          rw [ek] at this
          exact this
        | true =>
          rw [if_pos rfl]
          rw [ek, Bool.true_and] at hq
          exact good_4 (tg.ext (x.trans x2)) fun st3 x3 => hq st3 ((x.trans x2).trans x3)
end
/-! ### is_tree -/
def pr (p : D × Nat) : D := .tup [p.1, .int p.2]
theorem form_kids {d : D} (h : formD d = true) : ∃ x xs, d = .tup (.str x :: xs) ∧ xs.length ≤ 3 ∧ kidsD d = xs ∧ ∃ r : Int, RK.lookup x = some r ∧ (xs.length : Int) = r := by
  match d, h with
  | .tup (.str x :: xs), h =>
    cases e : RK.lookup x with
    | none => simp only [formD, e] at h; cases h
    | some r =>
      simp only [formD, e, decide_eq_true_eq] at h
      refine ⟨x, xs, rfl, ?_, rfl, r, e, h⟩
      have : r ≤ 3 := by
        have key : ∀ p ∈ RK, p.2 ≤ 3 := by decide +kernel
        exact key (x, r) (PySem.mem_of_lookup e)
      omega
section
variable {Γ : Gn} {ex : DXE} {N : DN} {q : DQ} {nx : DEnv → Stt → Prop} {th : Option D}
theorem tree_body {st0 st : Stt} {w : Addr} {many k : Nat} {d : D} {L : List (D × Nat)} {o3 o4 : Option D} {rt : DQ} {M bk ct : DEnv → Stt → Prop} (nw : st0 w = none) (x0 : Ext st0 st) (ew : st w = some (.lst (((d, k) :: L).map pr).reverse)) (hd : Ty st0 d) (hm : many ≤ 300) (hL : L.length ≤ 1000)
    (hF : many + 1 > 300 ∨ k > 40 ∨ formD d = false → ∀ st', Ext st0 st' → rt (.bl false) st') (hT : ¬ (many + 1 > 300 ∨ k > 40 ∨ formD d = false) → ∀ st' o3 o4, Ext st0 st' → st' w = some (.lst (((((kidsD d).map fun p => (p, k + 1)).reverse ++ L).map pr).reverse)) → M [th, some (.int (many + 1 : Nat)), some (.ref w), o3, o4, none] st') :
    b_is_tree_1 Γ ex { nx := M, rt := rt, bk := bk, ct := ct } [th, some (.int many), some (.ref w), o3, o4, none] st := by
  unfold b_is_tree_1
  simp only [sRet, sSeq, sNext, sIf, sDrop, sSet, sAsg, sPar, sPar3, sAug, sRaise, dAndV, dOrV, dNotV, dAnd, dOr, dNot, dB, dIf, dOp, dUn, dCB, dVar, dC, dNil, dCons, dTup, dLst, dChain, dCall, gNm, gTp, gsCons, gsNil, DL.gSub, nIsi, dBM, dBM0, dPart, dNoPart, dSl, dInW, dIxW, dNewK, dNewT, dRevL, dRevT, dDPop1, dItems, dLRg, iTupD, iLstD, iStrD, iEnD, iRng1D, iRng2D, oI2, oNeg, List.getElem?_cons_zero, List.getElem?_cons_succ, List.set_cons_zero, List.set_cons_succ, exists_eq_left', exists_eq_left, exists_and_left, exists_eq', and_assoc, Option.some.injEq, List.cons.injEq, D.ty.injEq, D.bl.injEq, D.int.injEq, D.str.injEq, D.tup.injEq, D.ref.injEq, and_true, true_and]
  have e1 : st w = some (.lst ((L.map pr).reverse ++ [pr (d, k)])) := by rw [ew, List.map_cons, List.reverse_cons]
  refine ⟨i_isL e1, i_pop e1 ⟨_, rfl, rfl, ?_⟩⟩
  unfold u_is_tree_1_1
  simp only [sRet, sSeq, sNext, sIf, sDrop, sSet, sAsg, sPar, sPar3, sAug, sRaise, dAndV, dOrV, dNotV, dAnd, dOr, dNot, dB, dIf, dOp, dUn, dCB, dVar, dC, dNil, dCons, dTup, dLst, dChain, dCall, gNm, gTp, gsCons, gsNil, DL.gSub, nIsi, dBM, dBM0, dPart, dNoPart, dSl, dInW, dIxW, dNewK, dNewT, dRevL, dRevT, dDPop1, dItems, dLRg, iTupD, iLstD, iStrD, iEnD, iRng1D, iRng2D, oI2, oNeg, List.getElem?_cons_zero, List.getElem?_cons_succ, List.set_cons_zero, List.set_cons_succ, exists_eq_left', exists_eq_left, exists_and_left, exists_eq', and_assoc, Option.some.injEq, List.cons.injEq, D.ty.injEq, D.bl.injEq, D.int.injEq, D.str.injEq, D.tup.injEq, D.ref.injEq, and_true, true_and]
  unfold u_is_tree_1_2
  simp only [sRet, sSeq, sNext, sIf, sDrop, sSet, sAsg, sPar, sPar3, sAug, sRaise, dAndV, dOrV, dNotV, dAnd, dOr, dNot, dB, dIf, dOp, dUn, dCB, dVar, dC, dNil, dCons, dTup, dLst, dChain, dCall, gNm, gTp, gsCons, gsNil, DL.gSub, nIsi, dBM, dBM0, dPart, dNoPart, dSl, dInW, dIxW, dNewK, dNewT, dRevL, dRevT, dDPop1, dItems, dLRg, iTupD, iLstD, iStrD, iEnD, iRng1D, iRng2D, oI2, oNeg, List.getElem?_cons_zero, List.getElem?_cons_succ, List.set_cons_zero, List.set_cons_succ, exists_eq_left', exists_eq_left, exists_and_left, exists_eq', and_assoc, Option.some.injEq, List.cons.injEq, D.ty.injEq, D.bl.injEq, D.int.injEq, D.str.injEq, D.tup.injEq, D.ref.injEq, and_true, true_and]
  have x1 : Ext st0 (put st w (.lst (L.map pr).reverse)) := x0.put nw
  refine t_gt ?_
  have ei : ((many : Int) + 1) = ((many + 1 : Nat) : Int) := by omega
  rw [ei]
  by_cases h1 : many + 1 > 300
  · rw [decide_eq_true (by omega), if_pos rfl, if_pos trivial]
    exact hF (.inl h1) _ x1
  rw [decide_eq_false (by omega), if_neg (by decide)]
  refine t_gt ?_
  by_cases h2 : k > 40
  · rw [decide_eq_true (by omega), if_pos rfl, if_pos trivial]
    exact hF (.inr (.inl h2)) _ x1
  rw [decide_eq_false (by omega), if_neg (by decide)]
  refine ⟨d, rfl, hd.ext x1, _, rfl, ?_⟩
  cases hf : formD d with
  | false => exact hF (.inr (.inr hf)) _ x1
  | true =>
    rw [if_neg (by decide)]
    obtain ⟨x, xs, rfl, hx3, hkid, _⟩ := form_kids hf
    rw [hkid] at hT
    unfold u_is_tree_1_3
    simp only [sRet, sSeq, sNext, sIf, sDrop, sSet, sAsg, sPar, sPar3, sAug, sRaise, dAndV, dOrV, dNotV, dAnd, dOr, dNot, dB, dIf, dOp, dUn, dCB, dVar, dC, dNil, dCons, dTup, dLst, dChain, dCall, gNm, gTp, gsCons, gsNil, DL.gSub, nIsi, dBM, dBM0, dPart, dNoPart, dSl, dInW, dIxW, dNewK, dNewT, dRevL, dRevT, dDPop1, dItems, dLRg, iTupD, iLstD, iStrD, iEnD, iRng1D, iRng2D, oI2, oNeg, List.getElem?_cons_zero, List.getElem?_cons_succ, List.set_cons_zero, List.set_cons_succ, exists_eq_left', exists_eq_left, exists_and_left, exists_eq', and_assoc, Option.some.injEq, List.cons.injEq, D.ty.injEq, D.bl.injEq, D.int.injEq, D.str.injEq, D.tup.injEq, D.ref.injEq, and_true, true_and]
    refine ⟨i_isL put_same, ?_⟩
    simp only [dLc]
    simp only [sRet, sSeq, sNext, sIf, sDrop, sSet, sAsg, sPar, sPar3, sAug, sRaise, dAndV, dOrV, dNotV, dAnd, dOr, dNot, dB, dIf, dOp, dUn, dCB, dVar, dC, dNil, dCons, dTup, dLst, dChain, dCall, gNm, gTp, gsCons, gsNil, DL.gSub, nIsi, dBM, dBM0, dPart, dNoPart, dSl, dInW, dIxW, dNewK, dNewT, dRevL, dRevT, dDPop1, dItems, dLRg, iTupD, iLstD, iStrD, iEnD, iRng1D, iRng2D, oI2, oNeg, List.getElem?_cons_zero, List.getElem?_cons_succ, List.set_cons_zero, List.set_cons_succ, exists_eq_left', exists_eq_left, exists_and_left, exists_eq', and_assoc, Option.some.injEq, List.cons.injEq, D.ty.injEq, D.bl.injEq, D.int.injEq, D.str.injEq, D.tup.injEq, D.ref.injEq, and_true, true_and]
    refine i_slT ⟨_, rfl, ?_⟩
    rw [cut1]
    refine lcPc (fun d => pr (d, k + 1)) (by rw [sizeLine_eq]; omega) (fun p hp a st' acc np x' e K1 hK => ?_) fun p st' np x' e => ?_
    · (simp only [CT.dg, dwipe]; simp only [sRet, sSeq, sNext, sIf, sDrop, sSet, sAsg, sPar, sPar3, sAug, sRaise, dAndV, dOrV, dNotV, dAnd, dOr, dNot, dB, dIf, dOp, dUn, dCB, dVar, dC, dNil, dCons, dTup, dLst, dChain, dCall, gNm, gTp, gsCons, gsNil, DL.gSub, nIsi, dBM, dBM0, dPart, dNoPart, dSl, dInW, dIxW, dNewK, dNewT, dRevL, dRevT, dDPop1, dItems, dLRg, iTupD, iLstD, iStrD, iEnD, iRng1D, iRng2D, oI2, oNeg, List.getElem?_cons_zero, List.getElem?_cons_succ, List.set_cons_zero, List.set_cons_succ, exists_eq_left', exists_eq_left, exists_and_left, exists_eq', and_assoc, Option.some.injEq, List.cons.injEq, D.ty.injEq, D.bl.injEq, D.int.injEq, D.str.injEq, D.tup.injEq, D.ref.injEq, and_true, true_and])
      have ek : ((k : Int) + 1) = ((k + 1 : Nat) : Int) := by omega
      refine ⟨by rw [sizeLine_eq]; simp, ?_⟩
      rw [ek]
      exact hK
    · refine i_extend (x' w _ put_same) e (by rw [sizeLine_eq]; simp; omega) ?_
      refine hT (by simp [hf]; omega) _ _ _ ((x1.trans x').put nw) ?_
      rw [put_same]
      simp [List.map_reverse, List.reverse_append, Function.comp]
end
theorem pure_is_tree {Γ : Gn} {ds : List D} {st : Stt} {q : DQ} {ex : DX} (h : sp_is_tree Γ ds st q ex) : t_is_tree Γ (fun x _ st => ex x st) { nx := fun _ st' => q .non st', rt := q } (dstart N_is_tree ds) st := by
  obtain ⟨d, rfl, hd, hq⟩ := h
  show t_is_tree Γ _ _ [some d, none, none, none, none, none] st
  unfold t_is_tree
  simp only [sRet, sSeq, sNext, sIf, sDrop, sSet, sAsg, sPar, sPar3, sAug, sRaise, dAndV, dOrV, dNotV, dAnd, dOr, dNot, dB, dIf, dOp, dUn, dCB, dVar, dC, dNil, dCons, dTup, dLst, dChain, dCall, gNm, gTp, gsCons, gsNil, DL.gSub, nIsi, dBM, dBM0, dPart, dNoPart, dSl, dInW, dIxW, dNewK, dNewT, dRevL, dRevT, dDPop1, dItems, dLRg, iTupD, iLstD, iStrD, iEnD, iRng1D, iRng2D, oI2, oNeg, List.getElem?_cons_zero, List.getElem?_cons_succ, List.set_cons_zero, List.set_cons_succ, exists_eq_left', exists_eq_left, exists_and_left, exists_eq', and_assoc, Option.some.injEq, List.cons.injEq, D.ty.injEq, D.bl.injEq, D.int.injEq, D.str.injEq, D.tup.injEq, D.ref.injEq, and_true, true_and]
  refine ⟨by rw [sizeLine_eq]; simp, by rw [sizeLine_eq]; simp, fun w nw => ?_⟩
  unfold u_is_tree_1
  simp only [sSeq, sWhile]
  obtain ⟨W, hW⟩ : ∃ W : Nat → DEnv → Stt → Prop, W = fun m δ st' => ∃ many L o3 o4, m + many = 302 ∧ many ≤ 300 ∧ L.length ≤ 1 + 3 * many ∧ Ext st st' ∧ δ = [some d, some (.int (many : Nat)), some (.ref w), o3, o4, none] ∧ st' w = some (.lst (L.map pr).reverse) ∧ (∀ p ∈ L, Ty st p.1) ∧ wlk m many L = treeB d := ⟨_, rfl⟩
  refine ⟨W, ⟨302, ?_⟩, ?_⟩
  · rw [hW]
    exact ⟨0, [(d, 1)], none, none, rfl, by decide, by simp, .new nw, rfl, put_same, fun p hp => by rw [List.mem_singleton.mp hp]; exact hd, rfl⟩
  intro m δ st1 hw0
  rw [hW] at hw0
  obtain ⟨many, L, o3, o4, hm, h300, hL, x1, rfl, ew, hT, hw⟩ := hw0
  simp only [sRet, sSeq, sNext, sIf, sDrop, sSet, sAsg, sPar, sPar3, sAug, sRaise, dAndV, dOrV, dNotV, dAnd, dOr, dNot, dB, dIf, dOp, dUn, dCB, dVar, dC, dNil, dCons, dTup, dLst, dChain, dCall, gNm, gTp, gsCons, gsNil, DL.gSub, nIsi, dBM, dBM0, dPart, dNoPart, dSl, dInW, dIxW, dNewK, dNewT, dRevL, dRevT, dDPop1, dItems, dLRg, iTupD, iLstD, iStrD, iEnD, iRng1D, iRng2D, oI2, oNeg, List.getElem?_cons_zero, List.getElem?_cons_succ, List.set_cons_zero, List.set_cons_succ, exists_eq_left', exists_eq_left, exists_and_left, exists_eq', and_assoc, Option.some.injEq, List.cons.injEq, D.ty.injEq, D.bl.injEq, D.int.injEq, D.str.injEq, D.tup.injEq, D.ref.injEq, and_true, true_and]
  refine i_lenL ew (t_gt ?_)
  cases L with
  | nil =>
    rw [if_neg (by simp)]
    unfold u_is_tree_2
    simp only [sRet, sSeq, sNext, sIf, sDrop, sSet, sAsg, sPar, sPar3, sAug, sRaise, dAndV, dOrV, dNotV, dAnd, dOr, dNot, dB, dIf, dOp, dUn, dCB, dVar, dC, dNil, dCons, dTup, dLst, dChain, dCall, gNm, gTp, gsCons, gsNil, DL.gSub, nIsi, dBM, dBM0, dPart, dNoPart, dSl, dInW, dIxW, dNewK, dNewT, dRevL, dRevT, dDPop1, dItems, dLRg, iTupD, iLstD, iStrD, iEnD, iRng1D, iRng2D, oI2, oNeg, List.getElem?_cons_zero, List.getElem?_cons_succ, List.set_cons_zero, List.set_cons_succ, exists_eq_left', exists_eq_left, exists_and_left, exists_eq', and_assoc, Option.some.injEq, List.cons.injEq, D.ty.injEq, D.bl.injEq, D.int.injEq, D.str.injEq, D.tup.injEq, D.ref.injEq, and_true, true_and]
    have : treeB d = true := by
      rw [← hw]
      obtain ⟨f, rfl⟩ : ∃ f, m = f + 1 := ⟨m - 1, by omega⟩
      rfl
    have h2 := hq st1 x1
    rw [this] at h2
    exact h2
  | cons p L =>
    obtain ⟨x, k⟩ := p
    rw [if_pos (by simp)]
    obtain ⟨f, rfl⟩ : ∃ f, m = f + 1 := ⟨m - 1, by omega⟩
    have hstep : wlk (f + 1) many ((x, k) :: L) = if many + 1 > 300 ∨ k > 40 ∨ formD x = false then false else wlk f (many + 1) (((kidsD x).map fun p => (p, k + 1)).reverse ++ L) := rfl
    rw [hstep] at hw
    refine ⟨fun δ' st' => ∃ m' < f + 1, W m' δ' st', fun _ _ ⟨m', h1, h2⟩ => ⟨m', h1, h2⟩, ?_⟩
    simp at hL
    refine tree_body (Γ := Γ) (st0 := st) nw x1 ew (hT _ List.mem_cons_self) h300 (by omega) (fun hc st' x' => ?_) fun hc st' o3 o4 x' e' => ?_
    · rw [if_pos hc] at hw
      have h2 := hq st' x'
      rw [← hw] at h2
      exact h2
    · rw [if_neg hc] at hw
      have hfm : formD x = true := by
        cases e : formD x with
        | true => rfl
        | false => exact absurd (.inr (.inr e)) hc
      obtain ⟨y, ys, rfl, h3, hkid, _⟩ := form_kids hfm
      refine ⟨f, Nat.lt_succ_self f, ?_⟩
      rw [hW]
      refine ⟨many + 1, _, o3, o4, by omega, by omega, ?_, x', rfl, e', fun p hp => ?_, hw⟩
      · rw [hkid, List.length_append, List.length_reverse, List.length_map]
        omega
      · rcases List.mem_append.mp hp with hp | hp
        · obtain ⟨z, hz, rfl⟩ := List.mem_map.mp (List.mem_reverse.mp hp)
          rw [hkid] at hz
          have := hT _ List.mem_cons_self
          cases this with
          | tup _ hh => exact hh z (List.mem_cons_of_mem _ hz)
        · exact hT p (List.mem_cons_of_mem _ hp)
end K73
/-! K9: plain facts of trees and types. -/
namespace K73
open PySem PySem.Spec L2 DL
theorem rk_of {x : Str} {r : Int} (h : RK.lookup x = some r) : x ∈ SGs ∧ (rk x : Int) = r ∧ 0 ≤ r ∧ r ≤ 3 := by
  have hm : (x, r) ∈ RK := PySem.mem_of_lookup h
  have h1 : ∀ p ∈ RK, p.1 ∈ SGs ∧ 0 ≤ p.2 ∧ p.2 ≤ 3 := by decide +kernel
  obtain ⟨a, b, c⟩ := h1 _ hm
  refine ⟨a, ?_, b, c⟩
  unfold rk
  rw [h]
  show ((r.toNat : Nat) : Int) = r
  simp only at b
  omega
/-! ### trees -/
theorem Tr.size_pos : ∀ t : Tr, 1 ≤ t.size
  | .a0 _ => by simp [Tr.size]
  | .a1 _ t => by simp only [Tr.size]; omega
  | .a2 _ t u => by simp only [Tr.size]; omega
  | .a3 _ t u v => by simp only [Tr.size]; omega
theorem Tr.deep_pos : ∀ t : Tr, 1 ≤ t.deep
  | .a0 _ => by simp [Tr.deep]
  | .a1 _ t => by simp only [Tr.deep]; omega
  | .a2 _ t u => by simp only [Tr.deep]; omega
  | .a3 _ t u v => by simp only [Tr.deep]; omega
theorem Tr.size_kids : ∀ t : Tr, t.size = 1 + (t.kids.map Tr.size).sum
  | .a0 _ => rfl
  | .a1 _ t => by simp [Tr.size, Tr.kids]
  | .a2 _ t u => by simp [Tr.size, Tr.kids]; omega
  | .a3 _ t u v => by simp [Tr.size, Tr.kids]; omega
theorem Tr.d_kids : ∀ t : Tr, t.d = .tup (.str t.sg :: t.kids.map Tr.d)
  | .a0 _ => rfl
  | .a1 _ t => rfl
  | .a2 _ t u => rfl
  | .a3 _ t u v => rfl
theorem Tr.ok_kids : ∀ {t : Tr}, t.ok → RK.lookup t.sg = some (t.kids.length : Int) ∧ ∀ u ∈ t.kids, u.ok
  | .a0 _, h => ⟨h, fun u hu => by cases hu⟩
  | .a1 _ t, h => ⟨h.1, fun u hu => by simp [Tr.kids] at hu; rw [hu]; exact h.2⟩
  | .a2 _ t u, h => ⟨h.1, fun z hz => by simp [Tr.kids] at hz; rcases hz with e | e <;> rw [e]; exact h.2.1; exact h.2.2⟩
  | .a3 _ t u v, h => ⟨h.1, fun z hz => by simp [Tr.kids] at hz; rcases hz with e | e | e <;> rw [e]; exact h.2.1; exact h.2.2.1; exact h.2.2.2⟩
theorem Tr.kids_len (t : Tr) : t.kids.length ≤ 3 := by cases t <;> simp [Tr.kids]
theorem Tr.deep_kids {n : Nat} : ∀ {t : Tr}, t.deep ≤ n + 1 ↔ ∀ u ∈ t.kids, u.deep ≤ n
  | .a0 _ => by simp [Tr.deep, Tr.kids]
  | .a1 _ t => by simp [Tr.deep, Tr.kids]; omega
  | .a2 _ t u => by simp [Tr.deep, Tr.kids]; omega
  | .a3 _ t u v => by simp [Tr.deep, Tr.kids]; omega
theorem Tr.size_kid {t u : Tr} (h : u ∈ t.kids) : u.size < t.size := by
  cases t <;> simp [Tr.kids] at h
  · subst h; simp only [Tr.size]; omega
  · rcases h with e | e <;> subst e <;> simp only [Tr.size] <;> omega
  · rcases h with e | e | e <;> subst e <;> simp only [Tr.size] <;> omega
/-- induction over the parts -/
theorem Tr.ind {P : Tr → Prop} (h : ∀ t : Tr, (∀ u ∈ t.kids, P u) → P t) (t : Tr) : P t := by
  have key : ∀ n, ∀ t : Tr, t.size ≤ n → P t := by
    intro n
    induction n with
    | zero => intro t ht; have := t.size_pos; omega
    | succ n ih => intro t ht; exact h t fun u hu => ih u (by have := Tr.size_kid hu; omega)
  exact key t.size t (Nat.le_refl _)
theorem Tr.ty {st : Stt} (t : Tr) : Ty st t.d := by
  induction t using Tr.ind with
  | h t ih =>
    rw [Tr.d_kids]
    refine .tup (by have := t.kids_len; simp; omega) fun d hd => ?_
    rcases List.mem_cons.mp hd with e | hd
    · rw [e]; exact .str
    · obtain ⟨u, hu, rfl⟩ := List.mem_map.mp hd
      exact ih u hu
theorem Tr.form {t : Tr} (h : t.ok) : formD t.d = true := by
  rw [Tr.d_kids]
  simp only [formD, (Tr.ok_kids h).1, List.length_map, decide_true]
theorem Tr.kidsD (t : Tr) : K73.kidsD t.d = t.kids.map Tr.d := by rw [Tr.d_kids] <;> rfl
def sumS (L : List (Tr × Nat)) : Nat := (L.map fun p => p.1.size).sum
theorem sumS_append (a b : List (Tr × Nat)) : sumS (a ++ b) = sumS a + sumS b := by unfold sumS; rw [List.map_append, List.sum_append]
theorem sumS_kids (t : Tr) (k : Nat) : sumS ((t.kids.map fun u => (u, k)).reverse) = (t.kids.map Tr.size).sum := by
  unfold sumS
  rw [List.map_reverse, List.sum_reverse, List.map_map]
  rfl
theorem wlk_iff : ∀ (f many : Nat) (L : List (Tr × Nat)), f + many = 302 → (∀ p ∈ L, p.1.ok) → (wlk f many (L.map fun p => (p.1.d, p.2)) = true ↔ many ≤ 301 ∧ (L ≠ [] → many + sumS L ≤ 300) ∧ ∀ p ∈ L, p.2 + p.1.deep ≤ 41)
  | 0, many, L, hm, _ => by
    constructor
    · intro h; cases h
    · intro h; omega
  | f + 1, many, [], hm, _ => by simp [wlk]; omega
  | f + 1, many, (t, k) :: L, hm, hok => by
    have ht : t.ok := hok _ List.mem_cons_self
    have hstep : wlk (f + 1) many (((t, k) :: L).map fun p => (p.1.d, p.2)) = if many + 1 > 300 ∨ k > 40 ∨ formD t.d = false then false else wlk f (many + 1) ((((t.kids.map fun u => (u, k + 1)).reverse) ++ L).map fun p => (p.1.d, p.2)) := by
      show (if many + 1 > 300 ∨ k > 40 ∨ formD t.d = false then false else wlk f (many + 1) (((K73.kidsD t.d).map fun p => (p, k + 1)).reverse ++ L.map fun p => (p.1.d, p.2))) = _
      rw [Tr.kidsD, List.map_append, List.map_reverse, List.map_map, List.map_map]
      rfl
    rw [hstep]
    have hs : sumS ((t, k) :: L) = t.size + sumS L := rfl
    have hsz := Tr.size_kids t
    have hdp := t.deep_pos
    have hsp := t.size_pos
    by_cases hc : many + 1 > 300 ∨ k > 40 ∨ formD t.d = false
    · rw [if_pos hc]
      refine ⟨(fun h => nomatch h), fun ⟨h1, h2, h3⟩ => ?_⟩
      have h2 := h2 (by simp)
      have h4 := h3 _ List.mem_cons_self
      simp only at h4
      rcases hc with hc | hc | hc
      · omega
      · omega
      · rw [Tr.form ht] at hc; cases hc
    · rw [if_neg hc, wlk_iff f (many + 1) _ (by omega) (fun p hp => ?_)]
      · rw [sumS_append, sumS_kids]
        constructor
        · rintro ⟨h1, h2, h3⟩
          refine ⟨by omega, fun _ => ?_, fun p hp => ?_⟩
          · by_cases e : (t.kids.map fun u => (u, k + 1)).reverse ++ L = []
            · rw [List.append_eq_nil_iff] at e
              have e1 : t.kids = [] := by simpa using e.1
              rw [e1] at hsz
              have e0 : sumS L = 0 := by rw [e.2] <;> rfl
              simp at hsz
              omega
            · have := h2 e
              omega
          · rcases List.mem_cons.mp hp with e | hp
            · subst e
              have : t.deep ≤ (40 - k) + 1 := Tr.deep_kids.mpr fun u hu => by
                have := h3 (u, k + 1) (List.mem_append_left _ (List.mem_reverse.mpr (List.mem_map.mpr ⟨u, hu, rfl⟩)))
                simp only at this
                omega
              simp only
              omega
            · exact h3 p (List.mem_append_right _ hp)
        · rintro ⟨h1, h2, h3⟩
          have h2 := h2 (by simp)
          refine ⟨by omega, fun _ => by omega, fun p hp => ?_⟩
          rcases List.mem_append.mp hp with hp | hp
          · obtain ⟨u, hu, rfl⟩ := List.mem_map.mp (List.mem_reverse.mp hp)
            have h4 := h3 _ List.mem_cons_self
            simp only at h4 ⊢
            have : t.deep ≤ (40 - k) + 1 := by omega
            have := (Tr.deep_kids.mp this) u hu
            omega
          · exact h3 p (List.mem_cons_of_mem _ hp)
      · rcases List.mem_append.mp hp with hp | hp
        · obtain ⟨u, hu, rfl⟩ := List.mem_map.mp (List.mem_reverse.mp hp)
          exact (Tr.ok_kids ht).2 u hu
        · exact hok p (List.mem_cons_of_mem _ hp)
theorem treeB_iff {t : Tr} (h : t.ok) : treeB t.d = true ↔ t.size ≤ 300 ∧ t.deep ≤ 40 := by
  have := wlk_iff 302 0 [(t, 1)] rfl (fun p hp => by rw [List.mem_singleton.mp hp]; exact h)
  show wlk 302 0 [(t.d, 1)] = true ↔ _
  rw [show [(t.d, 1)] = [(t, 1)].map fun p : Tr × Nat => (p.1.d, p.2) from rfl, this]
  have e : sumS [(t, 1)] = t.size := by simp [sumS]
  rw [e]
  simp
  omega
/-! ### types -/
theorem perm_lookup {l : List (Str × List Int)} {x : Str} (h : x ∈ l.map (·.1)) : ∃ r, l.lookup x = some r ∧ (x, r) ∈ l := by
  cases e : l.lookup x with
  | some r => exact ⟨r, rfl, PySem.mem_of_lookup e⟩
  | none =>
    exfalso
    induction l with
    | nil => cases h
    | cons p r ih =>
      obtain ⟨k, v⟩ := p
      rw [List.lookup_cons] at e
      split at e
      · cases e
      · rename_i hk
        rcases List.mem_cons.mp h with z | z
        · simp only at z; subst z; simp at hk
        · exact ih z e
section
variable {S : Srt} (ok : S.Ok)
include ok
theorem Srt.row_ok {x : Str} (hx : x ∈ SGs) : (S.row x).length = S.many ^ rk x ∧ (∀ n ∈ S.row x, 0 ≤ n ∧ n < (S.many : Int)) ∧ S.kvs.lookup x = some (S.row x) := by
  obtain ⟨r, e, hm⟩ := perm_lookup (ok.keys.mem_iff.mpr hx)
  have hr : S.row x = r := by unfold Srt.row; rw [e] <;> rfl
  obtain ⟨h1, h2⟩ := ok.rows _ hm
  rw [hr]
  exact ⟨h1, h2, e⟩
theorem Srt.tbl_at {x : Str} (hx : x ∈ SGs) : valD S.tbl (.inr x) = some (.tup (nI (S.row x))) := by
  obtain ⟨_, _, e⟩ := S.row_ok ok hx
  unfold Srt.tbl
  generalize S.row x = r at e
  clear ok hx
  generalize S.kvs = l at e
  induction l with
  | nil => cases e
  | cons p l ih =>
    obtain ⟨k, v⟩ := p
    rw [List.lookup_cons] at e
    show (if (Sum.inr k : Key) = Sum.inr x then some _ else valD _ _) = _
    split at e
    · rename_i hk
      have : x = k := by simpa using hk
      subst this
      cases e
      exact if_pos rfl
    · rename_i hk
      have : ¬ (Sum.inr k : Key) = Sum.inr x := fun z => by
        injection z with z
        subst z
        simp at hk
      rw [if_neg this]
      exact ih e
omit ok in
theorem place_bound {m : Nat} (hm : 1 ≤ m) : ∀ (ns : List Int), (∀ n ∈ ns, 0 ≤ n ∧ n < (m : Int)) → 0 ≤ place m ns ∧ place m ns < ((m ^ ns.length : Nat) : Int) := by
  have key : ∀ (ns : List Int) (p : Int) (k : Nat), 0 ≤ p → p < ((m ^ k : Nat) : Int) → (∀ n ∈ ns, 0 ≤ n ∧ n < (m : Int)) → 0 ≤ ns.foldl (fun (p n : Int) => p * (m : Int) + n) p ∧ ns.foldl (fun (p n : Int) => p * (m : Int) + n) p < ((m ^ (k + ns.length) : Nat) : Int) := by
    intro ns
    induction ns with
    | nil => intro p k h1 h2 _; exact ⟨h1, h2⟩
    | cons n ns ih =>
      intro p k h1 h2 hn
      obtain ⟨a, b⟩ := hn n List.mem_cons_self
      have e : k + (n :: ns).length = (k + 1) + ns.length := by simp; omega
      rw [e]
      refine ih (p * m + n) (k + 1) ?_ ?_ fun z hz => hn z (List.mem_cons_of_mem _ hz)
      · have : 0 ≤ p * m := Int.mul_nonneg h1 (by omega)
        omega
      · rw [Nat.pow_succ]
        push_cast
        have h3 : p + 1 ≤ ((m ^ k : Nat) : Int) := by omega
        have h4 : (p + 1) * (m : Int) ≤ ((m ^ k : Nat) : Int) * m := Int.mul_le_mul_of_nonneg_right h3 (by omega)
        rw [Int.add_mul, Int.one_mul] at h4
        push_cast at h4
        omega
  intro ns hn
  have := key ns 0 0 (by omega) (by simp) hn
  simpa [place] using this
theorem num_step (t : Tr) : num S t = (S.row t.sg).getD (place S.many (t.kids.map (num S))).toNat 0 := by cases t <;> rfl
theorem num_ok {t : Tr} (ht : t.ok) : 0 ≤ num S t ∧ num S t < (S.many : Int) := by
  induction t using Tr.ind with
  | h t ih =>
    obtain ⟨h1, h2⟩ := Tr.ok_kids ht
    obtain ⟨hx, hr, _, _⟩ := rk_of h1
    obtain ⟨r1, r2, _⟩ := S.row_ok ok hx
    rw [num_step ok t]
    have hb := place_bound ok.m1 (t.kids.map (num S)) fun n hn => by
      obtain ⟨u, hu, rfl⟩ := List.mem_map.mp hn
      exact ih u hu (h2 u hu)
    rw [List.length_map] at hb
    have e : rk t.sg = t.kids.length := by omega
    rw [e] at r1
    have hlt : (place S.many (t.kids.map (num S))).toNat < (S.row t.sg).length := by rw [r1]; omega
    rw [List.getD_eq_getElem?_getD, List.getElem?_eq_getElem hlt]
    exact r2 _ (List.getElem_mem hlt)
/-- the lookup that _law_to and number_by make -/
theorem num_at {t : Tr} (ht : t.ok) : 0 ≤ place S.many (t.kids.map (num S)) ∧ (nI (S.row t.sg))[(place S.many (t.kids.map (num S))).toNat]? = some (.int (num S t)) ∧ valD S.tbl (.inr t.sg) = some (.tup (nI (S.row t.sg))) := by
  obtain ⟨h1, h2⟩ := Tr.ok_kids ht
  obtain ⟨hx, hr, _, _⟩ := rk_of h1
  obtain ⟨r1, r2, _⟩ := S.row_ok ok hx
  have hb := place_bound ok.m1 (t.kids.map (num S)) fun n hn => by
    obtain ⟨u, hu, rfl⟩ := List.mem_map.mp hn
    exact num_ok ok (h2 u hu)
  rw [List.length_map] at hb
  have e : rk t.sg = t.kids.length := by omega
  rw [e] at r1
  have hlt : (place S.many (t.kids.map (num S))).toNat < (S.row t.sg).length := by rw [r1]; omega
  refine ⟨hb.1, ?_, S.tbl_at ok hx⟩
  unfold nI
  rw [List.getElem?_map, num_step ok t, List.getD_eq_getElem?_getD, List.getElem?_eq_getElem hlt] <;> rfl
theorem inR_ints {m : Int} {ns : List Int} (h : ∀ n ∈ ns, 0 ≤ n ∧ n < m) : (nI ns).all (fun x => inR x 0 (m - 1)) = true := by
  unfold nI
  rw [List.all_map, List.all_eq_true]
  intro n hn
  have := h n hn
  simp only [Function.comp, inR, Bool.and_eq_true, decide_eq_true_eq]
  omega
omit ok in
theorem incF_pw : ∀ {ns : List Int}, ns.Pairwise (· < ·) → incF (nI ns) = true
  | [], _ => rfl
  | [_], _ => rfl
  | a :: b :: r, h => by
    rw [List.pairwise_cons] at h
    show (decide (a < b) && incF (nI (b :: r))) = true
    rw [Bool.and_eq_true]
    exact ⟨decide_eq_true (h.1 b List.mem_cons_self), incF_pw h.2⟩
theorem Srt.len8 : S.tbl.length = 8 := by
  unfold Srt.tbl
  rw [List.length_map]
  have := ok.keys.length_eq
  rw [List.length_map] at this
  rw [this] <;> rfl
theorem Srt.good_len : S.good.length ≤ 5 := by
  have h1 := ok.inc
  have h2 := ok.good
  have h5 := ok.m5
  have key : ∀ (l : List Int) (lo : Int), l.Pairwise (· < ·) → (∀ n ∈ l, lo ≤ n ∧ n < 5) → (l.length : Int) ≤ max 0 (5 - lo) := by
    intro l
    induction l with
    | nil => intro lo _ _; simp; omega
    | cons a r ih =>
      intro lo hp hb
      rw [List.pairwise_cons] at hp
      obtain ⟨q1, q2⟩ := hb a List.mem_cons_self
      have := ih (a + 1) hp.2 fun n hn => ⟨by have := hp.1 n hn; omega, (hb n (List.mem_cons_of_mem _ hn)).2⟩
      simp only [List.length_cons]
      omega
  have := key S.good 0 h1 fun n hn => by have := h2 n hn; omega
  omega
theorem Srt.isType {st : Stt} {a : Addr} (ea : st a = some (.dK S.tbl)) : isTypeF st (S.d a) = true := by
  have h1 := ok.m1
  have h5 := ok.m5
  show (inR (.int S.many) 1 5 && (rulesF st S.many (.ref a) && goodF S.many (.tup (nI S.good)))) = true
  have e1 : inR (.int S.many) 1 5 = true := by simp only [inR, Bool.and_eq_true, decide_eq_true_eq]; omega
  have e2 : goodF S.many (.tup (nI S.good)) = true := by
    simp only [goodF, Bool.and_eq_true]
    exact ⟨inR_ints ok ok.good, incF_pw ok.inc⟩
  have e3 : rulesF st S.many (.ref a) = true := by
    simp only [rulesF, ea, Bool.and_eq_true, Int.toNat_natCast, List.all_eq_true]
    refine ⟨decide_eq_true (S.len8 ok), fun x hx => by rw [S.tbl_at ok hx] <;> rfl, fun x hx => ?_⟩
    rw [S.tbl_at ok hx]
    obtain ⟨r1, r2, _⟩ := S.row_ok ok hx
    simp only [rowF, Bool.and_eq_true, decide_eq_true_eq]
    exact ⟨by unfold nI; rw [List.length_map]; exact r1, inR_ints ok r2⟩
  rw [e1, e2, e3] <;> rfl
theorem Srt.ty {st : Stt} {a : Addr} (ea : st a = some (.dK S.tbl)) : Ty st (S.d a) := by
  refine .tup (by simp) fun d hd => ?_
  simp only [List.mem_cons, List.not_mem_nil, or_false] at hd
  have tn : ∀ ns : List Int, ns.length ≤ 1000 → Ty st (.tup (nI ns)) := fun ns hn => .tup (by unfold nI; simpa using hn) fun d hd => by
    obtain ⟨n, _, rfl⟩ := List.mem_map.mp hd
    exact .int
  rcases hd with e | e | e
  · rw [e]; exact .int
  · rw [e]
    refine .dK ea fun p hp => ?_
    obtain ⟨⟨x, ns⟩, hm, rfl⟩ := List.mem_map.mp hp
    obtain ⟨h1, _⟩ := ok.rows _ hm
    refine tn ns ?_
    have hx : x ∈ SGs := ok.keys.mem_iff.mp (List.mem_map.mpr ⟨_, hm, rfl⟩)
    have h3 : rk x ≤ 3 := by
      have key : ∀ y ∈ SGs, rk y ≤ 3 := by decide +kernel
      exact key x hx
    simp only at h1
    rw [h1]
    calc S.many ^ rk x ≤ 5 ^ rk x := Nat.pow_le_pow_left ok.m5 _
      _ ≤ 5 ^ 3 := Nat.pow_le_pow_right (by decide) h3
      _ ≤ 1000 := by decide
  · rw [e]
    exact tn _ (by have := S.good_len ok; omega)
end
end K73
/-! K10: node_rows, raw_number, number_of, is_of. -/
namespace K73
open PySem PySem.Spec L2 DL
def pr2 (p : List Int × Tr) : D := .tup [.tup (nI p.1), p.2.d]
/-- the parts with their paths -/
def kidsAt (p : List Int) (t : Tr) : List (List Int × Tr) := t.kids.zipIdx.map fun q => (p ++ [(q.2 : Int)], q.1)
theorem rowsL_eq (p : List Int) (t : Tr) : rowsL p t = pr2 (p, t) :: (kidsAt p t).flatMap fun q => rowsL q.1 q.2 := by
  cases t <;> simp [rowsL, kidsAt, Tr.kids, pr2]
def sum2 (L : List (List Int × Tr)) : Nat := (L.map fun p => p.2.size).sum
theorem sum2_append (a b : List (List Int × Tr)) : sum2 (a ++ b) = sum2 a + sum2 b := by unfold sum2; rw [List.map_append, List.sum_append]
theorem kidsAt_snd (p : List Int) (t : Tr) : (kidsAt p t).map (·.2) = t.kids := by cases t <;> rfl
theorem sum2_kids (p : List Int) (t : Tr) : t.size = 1 + sum2 (kidsAt p t) := by
  rw [Tr.size_kids]
  unfold sum2
  have : ((kidsAt p t).map fun p => p.2.size) = (((kidsAt p t).map (·.2)).map Tr.size) := by rw [List.map_map] <;> rfl
  rw [this, kidsAt_snd]
theorem rowsL_len (t : Tr) : ∀ p, (rowsL p t).length = t.size := by
  induction t using Tr.ind with
  | h t ih =>
    intro p
    rw [rowsL_eq, List.length_cons, List.length_flatMap, sum2_kids p t]
    have : ((kidsAt p t).map fun q => (rowsL q.1 q.2).length) = (kidsAt p t).map fun q => q.2.size := by
      refine List.map_congr_left fun q hq => ih q.2 ?_ q.1
      rw [← kidsAt_snd p t]
      exact List.mem_map.mpr ⟨q, hq, rfl⟩
    rw [this]
    unfold sum2
    omega
theorem kids_enum (p : List Int) (t : Tr) : (enumL (t.kids.map Tr.d)).map (fun d => match d with
    | .tup [.int i, u] => D.tup [.tup (nI (p ++ [i])), u]
    | _ => .non) = (kidsAt p t).map pr2 := by cases t <;> rfl
section
variable {Γ : Gn} {ex : DXE} {th : Option D} {rt : DQ} {M bk ct : DEnv → Stt → Prop}
theorem rows_body {st0 st : Stt} {f w : Addr} {acc : List D} {p : List Int} {t : Tr} {L : List (List Int × Tr)} {o3 o4 : Option D} (nf : st0 f = none) (nw : st0 w = none) (hfw : f ≠ w) (x0 : Ext st0 st) (ew : st w = some (.lst (((p, t) :: L).map pr2).reverse)) (ef : st f = some (.lst acc)) (hacc : acc.length ≤ 1000) (hL : L.length ≤ 1000) (hp : p.length ≤ 1000)
    (hT : ∀ st' o3 o4, Ext st0 st' → st' f = some (.lst (acc ++ [pr2 (p, t)])) → st' w = some (.lst ((kidsAt p t ++ L).map pr2).reverse) → M [th, some (.ref f), some (.ref w), o3, o4, none, none] st') :
    b_node_rows_1 Γ ex { nx := M, rt := rt, bk := bk, ct := ct } [th, some (.ref f), some (.ref w), o3, o4, none, none] st := by
  unfold b_node_rows_1
  simp only [sRet, sSeq, sNext, sIf, sDrop, sSet, sAsg, sPar, sPar3, sAug, sRaise, dAndV, dOrV, dNotV, dAnd, dOr, dNot, dB, dIf, dOp, dUn, dCB, dVar, dC, dNil, dCons, dTup, dLst, dChain, dCall, gNm, gTp, gsCons, gsNil, DL.gSub, nIsi, dBM, dBM0, dPart, dNoPart, dSl, dInW, dIxW, dNewK, dNewT, dRevL, dRevT, dDPop1, dItems, dLRg, iTupD, iLstD, iStrD, iEnD, iRng1D, iRng2D, oI2, oNeg, List.getElem?_cons_zero, List.getElem?_cons_succ, List.set_cons_zero, List.set_cons_succ, exists_eq_left', exists_eq_left, exists_and_left, exists_eq', and_assoc, Option.some.injEq, List.cons.injEq, D.ty.injEq, D.bl.injEq, D.int.injEq, D.str.injEq, D.tup.injEq, D.ref.injEq, and_true, true_and]
  have e1 : st w = some (.lst ((L.map pr2).reverse ++ [pr2 (p, t)])) := by rw [ew, List.map_cons, List.reverse_cons]
  refine ⟨i_isL e1, i_pop e1 ⟨_, rfl, rfl, ?_⟩⟩
  unfold u_node_rows_1_1
  simp only [sRet, sSeq, sNext, sIf, sDrop, sSet, sAsg, sPar, sPar3, sAug, sRaise, dAndV, dOrV, dNotV, dAnd, dOr, dNot, dB, dIf, dOp, dUn, dCB, dVar, dC, dNil, dCons, dTup, dLst, dChain, dCall, gNm, gTp, gsCons, gsNil, DL.gSub, nIsi, dBM, dBM0, dPart, dNoPart, dSl, dInW, dIxW, dNewK, dNewT, dRevL, dRevT, dDPop1, dItems, dLRg, iTupD, iLstD, iStrD, iEnD, iRng1D, iRng2D, oI2, oNeg, List.getElem?_cons_zero, List.getElem?_cons_succ, List.set_cons_zero, List.set_cons_succ, exists_eq_left', exists_eq_left, exists_and_left, exists_eq', and_assoc, Option.some.injEq, List.cons.injEq, D.ty.injEq, D.bl.injEq, D.int.injEq, D.str.injEq, D.tup.injEq, D.ref.injEq, and_true, true_and]
  have x1 : Ext st0 (put st w (.lst (L.map pr2).reverse)) := x0.put nw
  have f1 : put st w (.lst (L.map pr2).reverse) f = some (.lst acc) := by rw [put_ne hfw]; exact ef
  refine ⟨i_isL f1, by rw [sizeLine_eq]; simp, i_append f1 (by rw [sizeLine_eq]; omega) ?_⟩
  unfold u_node_rows_1_2
  simp only [sRet, sSeq, sNext, sIf, sDrop, sSet, sAsg, sPar, sPar3, sAug, sRaise, dAndV, dOrV, dNotV, dAnd, dOr, dNot, dB, dIf, dOp, dUn, dCB, dVar, dC, dNil, dCons, dTup, dLst, dChain, dCall, gNm, gTp, gsCons, gsNil, DL.gSub, nIsi, dBM, dBM0, dPart, dNoPart, dSl, dInW, dIxW, dNewK, dNewT, dRevL, dRevT, dDPop1, dItems, dLRg, iTupD, iLstD, iStrD, iEnD, iRng1D, iRng2D, oI2, oNeg, List.getElem?_cons_zero, List.getElem?_cons_succ, List.set_cons_zero, List.set_cons_succ, exists_eq_left', exists_eq_left, exists_and_left, exists_eq', and_assoc, Option.some.injEq, List.cons.injEq, D.ty.injEq, D.bl.injEq, D.int.injEq, D.str.injEq, D.tup.injEq, D.ref.injEq, and_true, true_and]
  have x2 : Ext st0 (put (put st w (.lst (L.map pr2).reverse)) f (.lst (acc ++ [.tup [.tup (nI p), t.d]]))) := x1.put nf
  have w2 : put (put st w (.lst (L.map pr2).reverse)) f (.lst (acc ++ [.tup [.tup (nI p), t.d]])) w = some (.lst (L.map pr2).reverse) := by rw [put_ne hfw.symm]; exact put_same
  have f2 : put (put st w (.lst (L.map pr2).reverse)) f (.lst (acc ++ [.tup [.tup (nI p), t.d]])) f = some (.lst (acc ++ [pr2 (p, t)])) := put_same
  generalize put (put st w (.lst (L.map pr2).reverse)) f (.lst (acc ++ [.tup [.tup (nI p), t.d]])) = st2 at x2 w2 f2 ⊢
  refine ⟨i_isL w2, ?_⟩
  simp only [dLc]
  simp only [sRet, sSeq, sNext, sIf, sDrop, sSet, sAsg, sPar, sPar3, sAug, sRaise, dAndV, dOrV, dNotV, dAnd, dOr, dNot, dB, dIf, dOp, dUn, dCB, dVar, dC, dNil, dCons, dTup, dLst, dChain, dCall, gNm, gTp, gsCons, gsNil, DL.gSub, nIsi, dBM, dBM0, dPart, dNoPart, dSl, dInW, dIxW, dNewK, dNewT, dRevL, dRevT, dDPop1, dItems, dLRg, iTupD, iLstD, iStrD, iEnD, iRng1D, iRng2D, oI2, oNeg, List.getElem?_cons_zero, List.getElem?_cons_succ, List.set_cons_zero, List.set_cons_succ, exists_eq_left', exists_eq_left, exists_and_left, exists_eq', and_assoc, Option.some.injEq, List.cons.injEq, D.ty.injEq, D.bl.injEq, D.int.injEq, D.str.injEq, D.tup.injEq, D.ref.injEq, and_true, true_and]
  rw [Tr.d_kids]
  refine i_slT ⟨_, rfl, ?_⟩
  rw [cut1]
  have hk := t.kids_len
  have hen : (enumL (t.kids.map Tr.d)).length = t.kids.length := by unfold enumL; simp
  refine lcPc (fun d => match d with
    | .tup [.int i, u] => D.tup [.tup (nI (p ++ [i])), u]
    | _ => .non) (by rw [sizeLine_eq, hen]; omega) (fun d hd a st' acc' np x' e K1 hK => ?_) fun a st' np x' e => ?_
  · unfold enumL at hd
    obtain ⟨⟨u, i⟩, _, rfl⟩ := List.mem_map.mp hd
    (simp only [CT.dg, dwipe]; simp only [sRet, sSeq, sNext, sIf, sDrop, sSet, sAsg, sPar, sPar3, sAug, sRaise, dAndV, dOrV, dNotV, dAnd, dOr, dNot, dB, dIf, dOp, dUn, dCB, dVar, dC, dNil, dCons, dTup, dLst, dChain, dCall, gNm, gTp, gsCons, gsNil, DL.gSub, nIsi, dBM, dBM0, dPart, dNoPart, dSl, dInW, dIxW, dNewK, dNewT, dRevL, dRevT, dDPop1, dItems, dLRg, iTupD, iLstD, iStrD, iEnD, iRng1D, iRng2D, oI2, oNeg, List.getElem?_cons_zero, List.getElem?_cons_succ, List.set_cons_zero, List.set_cons_succ, exists_eq_left', exists_eq_left, exists_and_left, exists_eq', and_assoc, Option.some.injEq, List.cons.injEq, D.ty.injEq, D.bl.injEq, D.int.injEq, D.str.injEq, D.tup.injEq, D.ref.injEq, and_true, true_and])
    refine ⟨rfl, ?_⟩
    simp only [setAll]
    simp only [sRet, sSeq, sNext, sIf, sDrop, sSet, sAsg, sPar, sPar3, sAug, sRaise, dAndV, dOrV, dNotV, dAnd, dOr, dNot, dB, dIf, dOp, dUn, dCB, dVar, dC, dNil, dCons, dTup, dLst, dChain, dCall, gNm, gTp, gsCons, gsNil, DL.gSub, nIsi, dBM, dBM0, dPart, dNoPart, dSl, dInW, dIxW, dNewK, dNewT, dRevL, dRevT, dDPop1, dItems, dLRg, iTupD, iLstD, iStrD, iEnD, iRng1D, iRng2D, oI2, oNeg, List.getElem?_cons_zero, List.getElem?_cons_succ, List.set_cons_zero, List.set_cons_succ, exists_eq_left', exists_eq_left, exists_and_left, exists_eq', and_assoc, Option.some.injEq, List.cons.injEq, D.ty.injEq, D.bl.injEq, D.int.injEq, D.str.injEq, D.tup.injEq, D.ref.injEq, and_true, true_and]
    refine ⟨by rw [sizeLine_eq]; simp, ⟨by rw [sizeLine_eq]; unfold nI; simp; omega, by rw [sizeLine_eq]; simp, ?_⟩⟩
    have : nI p ++ [D.int ((i : Nat) : Int)] = nI (p ++ [(i : Int)]) := by unfold nI; simp
    rw [this]
    exact hK
  · rw [kids_enum] at e
    refine ⟨_, e, fun b nb => ?_⟩
    have wb : put st' b (.lst ((kidsAt p t).map pr2).reverse) w = some (.lst (L.map pr2).reverse) := by rw [put_ne (neq_of (x' w _ w2) nb)]; exact x' w _ w2
    refine i_extend wb put_same (by
      have : (kidsAt p t).length = t.kids.length := by rw [← kidsAt_snd p t, List.length_map]
      rw [sizeLine_eq]; simp; omega) ?_
    refine hT _ _ _ (((x2.trans x').trans (.new nb)).put nw) ?_ ?_
    · rw [put_ne hfw, put_ne (neq_of (x' f _ f2) nb)]
      exact x' f _ f2
    · rw [put_same]
      simp
end
theorem pure_node_rows {Γ : Gn} {ds : List D} {st : Stt} {q : DQ} {ex : DX} (h : sp_node_rows Γ ds st q ex) : t_node_rows Γ (fun x _ st => ex x st) { nx := fun _ st' => q .non st', rt := q } (dstart N_node_rows ds) st := by
  obtain ⟨t, rfl, hok, h300, hq⟩ := h
  show t_node_rows Γ _ _ [some t.d, none, none, none, none, none, none] st
  unfold t_node_rows
  simp only [sRet, sSeq, sNext, sIf, sDrop, sSet, sAsg, sPar, sPar3, sAug, sRaise, dAndV, dOrV, dNotV, dAnd, dOr, dNot, dB, dIf, dOp, dUn, dCB, dVar, dC, dNil, dCons, dTup, dLst, dChain, dCall, gNm, gTp, gsCons, gsNil, DL.gSub, nIsi, dBM, dBM0, dPart, dNoPart, dSl, dInW, dIxW, dNewK, dNewT, dRevL, dRevT, dDPop1, dItems, dLRg, iTupD, iLstD, iStrD, iEnD, iRng1D, iRng2D, oI2, oNeg, List.getElem?_cons_zero, List.getElem?_cons_succ, List.set_cons_zero, List.set_cons_succ, exists_eq_left', exists_eq_left, exists_and_left, exists_eq', and_assoc, Option.some.injEq, List.cons.injEq, D.ty.injEq, D.bl.injEq, D.int.injEq, D.str.injEq, D.tup.injEq, D.ref.injEq, and_true, true_and]
  refine ⟨by decide, fun f nf => ⟨by decide, by rw [sizeLine_eq]; simp, by rw [sizeLine_eq]; simp, fun w nw => ?_⟩⟩
  unfold u_node_rows_1
  simp only [sSeq, sWhile]
  have hfw : f ≠ w := neq_of put_same nw
  have nw0 : st w = none := (Ext.new nf).none nw
  obtain ⟨W, hW⟩ : ∃ W : Nat → DEnv → Stt → Prop, W = fun m δ st' => ∃ acc L o3 o4, m = sum2 L ∧ acc.length + sum2 L = t.size ∧ (∀ p ∈ L, p.1.length ≤ acc.length) ∧ L.length ≤ 1 + 3 * acc.length ∧ Ext st st' ∧ δ = [some t.d, some (.ref f), some (.ref w), o3, o4, none, none] ∧
    st' f = some (.lst acc) ∧ st' w = some (.lst (L.map pr2).reverse) ∧ acc ++ L.flatMap (fun q => rowsL q.1 q.2) = rowsL [] t := ⟨_, rfl⟩
  refine ⟨W, ⟨t.size, ?_⟩, ?_⟩
  · rw [hW]
    refine ⟨[], [([], t)], none, none, by simp [sum2], by simp [sum2], by simp, by simp, (Ext.new nf).put nw0, rfl, by rw [put_ne hfw]; exact put_same, put_same, by simp⟩
  intro m δ st1 hw0
  rw [hW] at hw0
  obtain ⟨acc, L, o3, o4, rfl, hs, hpl, hLl, x1, rfl, ef, ew, hrows⟩ := hw0
  simp only [sRet, sSeq, sNext, sIf, sDrop, sSet, sAsg, sPar, sPar3, sAug, sRaise, dAndV, dOrV, dNotV, dAnd, dOr, dNot, dB, dIf, dOp, dUn, dCB, dVar, dC, dNil, dCons, dTup, dLst, dChain, dCall, gNm, gTp, gsCons, gsNil, DL.gSub, nIsi, dBM, dBM0, dPart, dNoPart, dSl, dInW, dIxW, dNewK, dNewT, dRevL, dRevT, dDPop1, dItems, dLRg, iTupD, iLstD, iStrD, iEnD, iRng1D, iRng2D, oI2, oNeg, List.getElem?_cons_zero, List.getElem?_cons_succ, List.set_cons_zero, List.set_cons_succ, exists_eq_left', exists_eq_left, exists_and_left, exists_eq', and_assoc, Option.some.injEq, List.cons.injEq, D.ty.injEq, D.bl.injEq, D.int.injEq, D.str.injEq, D.tup.injEq, D.ref.injEq, and_true, true_and]
  refine i_lenL ew (t_gt ?_)
  cases L with
  | nil =>
    rw [if_neg (by simp)]
    unfold u_node_rows_2
    simp only [sRet, sSeq, sNext, sIf, sDrop, sSet, sAsg, sPar, sPar3, sAug, sRaise, dAndV, dOrV, dNotV, dAnd, dOr, dNot, dB, dIf, dOp, dUn, dCB, dVar, dC, dNil, dCons, dTup, dLst, dChain, dCall, gNm, gTp, gsCons, gsNil, DL.gSub, nIsi, dBM, dBM0, dPart, dNoPart, dSl, dInW, dIxW, dNewK, dNewT, dRevL, dRevT, dDPop1, dItems, dLRg, iTupD, iLstD, iStrD, iEnD, iRng1D, iRng2D, oI2, oNeg, List.getElem?_cons_zero, List.getElem?_cons_succ, List.set_cons_zero, List.set_cons_succ, exists_eq_left', exists_eq_left, exists_and_left, exists_eq', and_assoc, Option.some.injEq, List.cons.injEq, D.ty.injEq, D.bl.injEq, D.int.injEq, D.str.injEq, D.tup.injEq, D.ref.injEq, and_true, true_and]
    rw [List.flatMap_nil, List.append_nil] at hrows
    rw [hrows] at ef
    exact hq st1 f x1 nf ef
  | cons p L =>
    obtain ⟨p, u⟩ := p
    rw [if_pos (by simp)]
    refine ⟨fun δ' st' => ∃ m' < sum2 ((p, u) :: L), W m' δ' st', fun _ _ ⟨m', h1, h2⟩ => ⟨m', h1, h2⟩, ?_⟩
    have e1 : sum2 ((p, u) :: L) = u.size + sum2 L := rfl
    have e2 := sum2_kids p u
    have e3 := u.size_pos
    have e4 := hpl (p, u) List.mem_cons_self
    simp only [List.length_cons] at hLl e4
    refine rows_body (Γ := Γ) (st0 := st) nf nw0 hfw x1 ew ef (by omega) (by omega) (by omega) fun st' o3 o4 x' f' w' => ?_
    refine ⟨sum2 (kidsAt p u ++ L), by rw [sum2_append]; omega, ?_⟩
    rw [hW]
    have hkl : (kidsAt p u).length ≤ 3 := by rw [← List.length_map (·.2), kidsAt_snd]; exact u.kids_len
    refine ⟨acc ++ [pr2 (p, u)], kidsAt p u ++ L, o3, o4, rfl, by rw [sum2_append]; simp; omega, fun z hz => ?_, by simp; omega, x', rfl, f', w', ?_⟩
    · rw [List.length_append]
      rcases List.mem_append.mp hz with hz | hz
      · unfold kidsAt at hz
        obtain ⟨⟨y, i⟩, _, rfl⟩ := List.mem_map.mp hz
        simp
        omega
      · have := hpl z (List.mem_cons_of_mem _ hz)
        simp
        omega
    · rw [← hrows, List.flatMap_cons, rowsL_eq p u, List.flatMap_append]
      simp
end K73
/-! K11: raw_number, number_of, is_of. -/
namespace K73
open PySem PySem.Spec L2 DL
section
variable {κ : Type} [DecidableEq κ]
theorem valD_map {k j : κ} {d : D} : ∀ {kvs : List (κ × D)}, valD (kvs.map fun kv => if kv.1 = k then (kv.1, d) else kv) j = if j = k then (valD kvs j).map fun _ => d else valD kvs j
  | [] => by simp [valD]
  | (k1, d1) :: r => by
    rw [List.map_cons]
    by_cases h : k1 = k
    · subst h
      simp only [if_true]
      by_cases h2 : k1 = j
      · subst h2; simp [valD]
      · simp only [valD, if_neg h2]
        rw [valD_map]
    · simp only [if_neg h]
      by_cases h2 : k1 = j
      · subst h2; simp [valD, h]
      · simp only [valD, if_neg h2]
        rw [valD_map]
theorem valD_snoc {k j : κ} {d : D} : ∀ {kvs : List (κ × D)}, valD kvs k = none → valD (kvs ++ [(k, d)]) j = if j = k then some d else valD kvs j
  | [], _ => by
    by_cases h : k = j
    · subst h; simp [valD]
    · simp [valD, h, Ne.symm h]
  | (k1, d1) :: r, hk => by
    have hk1 : k1 ≠ k := fun e => by subst e; simp [valD] at hk
    have hr : valD r k = none := by simpa [valD, hk1] using hk
    rw [List.cons_append]
    by_cases h2 : k1 = j
    · subst h2; simp [valD, hk1]
    · simp only [valD, if_neg h2]
      exact valD_snoc hr
theorem valD_put {k j : κ} {d : D} {kvs : List (κ × D)} : valD (putD kvs k d) j = if j = k then some d else valD kvs j := by
  unfold putD
  cases e : valD kvs k with
  | none => rw [if_neg (by simp)]; exact valD_snoc e
  | some v =>
    rw [if_pos (by simp), valD_map]
    by_cases h : j = k
    · subst h; simp [e]
    · simp [h]
theorem len_put {k : κ} {d : D} {kvs : List (κ × D)} : (putD kvs k d).length ≤ kvs.length + 1 := by
  unfold putD
  split
  · rw [List.length_map]; omega
  · simp
end
def keyP (p : List Int) : List Key := p.map Sum.inl
theorem keysD_nI : ∀ p : List Int, keysD (nI p) = some (keyP p)
  | [] => rfl
  | n :: p => by
    have ih := keysD_nI p
    show (match keyD (.int n), keysD (nI p) with
      | some k, some ks => some (k :: ks)
      | _, _ => none) = _
    rw [ih] <;> rfl
theorem keyP_inj {p r : List Int} (h : keyP p = keyP r) : p = r := by
  unfold keyP at h
  exact List.map_inj_right (fun a b e => by injection e) |>.mp h
section
variable {Γ : Gn} {ex : DXE} {S : Srt} {a fd : Addr} {th : Option D} {N : DN} {chk : Stt → Prop}
theorem raw_body {st : Stt} {p : List Int} {u : Tr} {kvs : List (List Key × D)} (hS : SrtAt st S a) (haf : a ≠ fd) (hok : u.ok) (ef : st fd = some (.dT kvs)) (hl : kvs.length ≤ 1000) (hpl : p.length ≤ 1000) (hk : ∀ q ∈ kidsAt p u, valD kvs (keyP q.1) = some (.int (num S q.2)))
    (h : ∀ st', Mov fd st st' → st' fd = some (.dT (putD kvs (keyP p) (.int (num S u)))) → N.nx [some (S.d a), th, some (.ref fd), some (.tup (nI p)), some u.d, none] st') :
    b_raw_number_1 Γ ex N [some (S.d a), th, some (.ref fd), some (.tup (nI p)), some u.d, none] st := by
  obtain ⟨okS, ea⟩ := hS
  unfold b_raw_number_1
  simp only [sRet, sSeq, sNext, sIf, sDrop, sSet, sAsg, sPar, sPar3, sAug, sRaise, dAndV, dOrV, dNotV, dAnd, dOr, dNot, dB, dIf, dOp, dUn, dCB, dVar, dC, dNil, dCons, dTup, dLst, dChain, dCall, gNm, gTp, gsCons, gsNil, DL.gSub, nIsi, dBM, dBM0, dPart, dNoPart, dSl, dInW, dIxW, dNewK, dNewT, dRevL, dRevT, dDPop1, dItems, dLRg, iTupD, iLstD, iStrD, iEnD, iRng1D, iRng2D, oI2, oNeg, List.getElem?_cons_zero, List.getElem?_cons_succ, List.set_cons_zero, List.set_cons_succ, exists_eq_left', exists_eq_left, exists_and_left, exists_eq', and_assoc, Option.some.injEq, List.cons.injEq, D.ty.injEq, D.bl.injEq, D.int.injEq, D.str.injEq, D.tup.injEq, D.ref.injEq, and_true, true_and]
  simp only [dLc]
  simp only [sRet, sSeq, sNext, sIf, sDrop, sSet, sAsg, sPar, sPar3, sAug, sRaise, dAndV, dOrV, dNotV, dAnd, dOr, dNot, dB, dIf, dOp, dUn, dCB, dVar, dC, dNil, dCons, dTup, dLst, dChain, dCall, gNm, gTp, gsCons, gsNil, DL.gSub, nIsi, dBM, dBM0, dPart, dNoPart, dSl, dInW, dIxW, dNewK, dNewT, dRevL, dRevT, dDPop1, dItems, dLRg, iTupD, iLstD, iStrD, iEnD, iRng1D, iRng2D, oI2, oNeg, List.getElem?_cons_zero, List.getElem?_cons_succ, List.set_cons_zero, List.set_cons_succ, exists_eq_left', exists_eq_left, exists_and_left, exists_eq', and_assoc, Option.some.injEq, List.cons.injEq, D.ty.injEq, D.bl.injEq, D.int.injEq, D.str.injEq, D.tup.injEq, D.ref.injEq, and_true, true_and]
  have hd := u.d_kids
  have e0 : ∀ {s : Stt} {Q : DQ}, Q (.str u.sg) s → oIx u.d (.int 0) s Q := fun hq => by
    rw [hd]
    exact i_ixT (i := 0) rfl hq
  refine e0 ?_
  have hlen : ∀ {s : Stt} {Q : DQ}, Q (.int (u.kids.length + 1 : Nat)) s → nLen [u.d] s Q := fun hq => by
    rw [hd]
    exact i_lenT (by simpa using hq)
  have h3 := u.kids_len
  refine hlen ⟨trivial, _, rfl, by omega, by omega, ?_⟩
  have en : (((u.kids.length + 1 : Nat) : Int) - 1).toNat = u.kids.length := by omega
  rw [en]
  refine lcPc (fun d => match d with
    | .int i => .int ((u.kids.map (num S)).getD i.toNat 0)
    | _ => .non) (by unfold rngL; rw [sizeLine_eq]; simp; omega) (fun d hdm b st' acc np x e K1 hK => ?_) fun lp st' np x e => ?_
  · unfold rngL at hdm
    obtain ⟨i, hi, rfl⟩ := List.mem_map.mp hdm
    have hi := List.mem_range.mp hi
    (simp only [CT.dg, dwipe]; simp only [sRet, sSeq, sNext, sIf, sDrop, sSet, sAsg, sPar, sPar3, sAug, sRaise, dAndV, dOrV, dNotV, dAnd, dOr, dNot, dB, dIf, dOp, dUn, dCB, dVar, dC, dNil, dCons, dTup, dLst, dChain, dCall, gNm, gTp, gsCons, gsNil, DL.gSub, nIsi, dBM, dBM0, dPart, dNoPart, dSl, dInW, dIxW, dNewK, dNewT, dRevL, dRevT, dDPop1, dItems, dLRg, iTupD, iLstD, iStrD, iEnD, iRng1D, iRng2D, oI2, oNeg, List.getElem?_cons_zero, List.getElem?_cons_succ, List.set_cons_zero, List.set_cons_succ, exists_eq_left', exists_eq_left, exists_and_left, exists_eq', and_assoc, Option.some.injEq, List.cons.injEq, D.ty.injEq, D.bl.injEq, D.int.injEq, D.str.injEq, D.tup.injEq, D.ref.injEq, and_true, true_and])
    refine ⟨by rw [sizeLine_eq]; simp, by unfold nI; rw [sizeLine_eq]; simp; omega, ?_⟩
    have ei : (0 : Int) + (i : Nat) = (i : Nat) := by omega
    rw [ei] at hK ⊢
    have en2 : nI p ++ [D.int ((i : Nat) : Int)] = nI (p ++ [(i : Int)]) := by unfold nI; simp
    rw [en2]
    refine i_ixKT (kk := keyP (p ++ [(i : Int)])) (x fd _ ef) (keysD_nI _) ?_ hK
    have hm : (p ++ [(i : Int)], u.kids[i]) ∈ kidsAt p u := by
      unfold kidsAt
      refine List.mem_map.mpr ⟨(u.kids[i], i), ?_, rfl⟩
      rw [List.mem_zipIdx_iff_getElem?]
      exact List.getElem?_eq_getElem hi
    rw [hk _ hm]
    simp only [Int.toNat_natCast]
    rw [List.getD_eq_getElem?_getD, List.getElem?_map, List.getElem?_eq_getElem hi] <;> rfl
  · have e2 : st' lp = some (.lst (nI (u.kids.map (num S)))) := by
      rw [e]
      unfold rngL nI
      rw [List.map_map, List.map_map]
      congr 2
      refine List.ext_getElem (by simp) fun i h1 h2 => ?_
      simp only [List.length_map, List.length_range] at h1
      simp [List.getElem?_eq_getElem, h1]
    obtain ⟨b0, b1, b2⟩ := num_at okS hok
    refine ⟨S.many, a, lp, .tup (nI S.good), u.sg, S.tbl, nI (S.row u.sg), u.kids.map (num S), _, rfl, okS.m5, x a _ ea, b2, e2, b0, b1, ?_⟩
    refine i_setT (x fd _ ef) (keysD_nI p) (by rw [sizeLine_eq]; omega) (h _ (Mov.of x |>.put_h) put_same)
theorem raw_sub (haf : a ≠ fd) {st0 : Stt} (hS : SrtAt st0 S a) (hc : ∀ st', Mov fd st0 st' → chk st') (u : Tr) : ∀ (p : List Int) (kvs : List (List Key × D)) (st : Stt) (rest : List D) (o3 o4 : Option D), u.ok → Mov fd st0 st → st fd = some (.dT kvs) → kvs.length + u.size ≤ 1000 → p.length + u.deep ≤ 1000 →
    (∀ kvs' st' o3 o4, Mov fd st0 st' → st' fd = some (.dT kvs') → kvs'.length ≤ kvs.length + u.size → valD kvs' (keyP p) = some (.int (num S u)) → (∀ r, ¬ p <+: r → valD kvs' (keyP r) = valD kvs (keyP r)) → runF chk (gTp 2 (gsCons (gNm 3) (gsCons (gNm 4) gsNil))) (b_raw_number_1 Γ ex) N rest [some (S.d a), th, some (.ref fd), o3, o4, none] st') →
    runF chk (gTp 2 (gsCons (gNm 3) (gsCons (gNm 4) gsNil))) (b_raw_number_1 Γ ex) N ((rowsL p u).reverse ++ rest) [some (S.d a), th, some (.ref fd), o3, o4, none] st := by
  induction u using Tr.ind with
  | h u ih =>
    intro p kvs st rest o3 o4 hok mv ef hl hpl hq
    -- the parts, the last one first
    have many : ∀ (Ls : List (List Int × Tr)) (n : Nat) (kvs : List (List Key × D)) (st : Stt) (rest : List D) (o3 o4 : Option D), (∀ q ∈ Ls, q.2 ∈ u.kids ∧ q.1.length = n) → n + u.deep ≤ 1001 → (Ls.map (·.1)).Nodup → Mov fd st0 st → st fd = some (.dT kvs) → kvs.length + sum2 Ls ≤ 1000 →
        (∀ kvs' st' o3 o4, Mov fd st0 st' → st' fd = some (.dT kvs') → kvs'.length ≤ kvs.length + sum2 Ls → (∀ q ∈ Ls, valD kvs' (keyP q.1) = some (.int (num S q.2))) → (∀ r, (∀ q ∈ Ls, ¬ q.1 <+: r) → valD kvs' (keyP r) = valD kvs (keyP r)) →
          runF chk (gTp 2 (gsCons (gNm 3) (gsCons (gNm 4) gsNil))) (b_raw_number_1 Γ ex) N rest [some (S.d a), th, some (.ref fd), o3, o4, none] st') →
        runF chk (gTp 2 (gsCons (gNm 3) (gsCons (gNm 4) gsNil))) (b_raw_number_1 Γ ex) N ((Ls.flatMap fun q => rowsL q.1 q.2).reverse ++ rest) [some (S.d a), th, some (.ref fd), o3, o4, none] st := by
      intro Ls
      induction Ls with
      | nil =>
        intro n kvs st rest o3 o4 _ _ _ mv ef hl hq
        exact hq kvs st o3 o4 mv ef (by simp) (fun q hq => by cases hq) fun _ _ => rfl
      | cons x Ls ihL =>
        intro n kvs st rest o3 o4 hm hn hnd mv ef hl hq
        obtain ⟨hx1, hx2⟩ := hm x List.mem_cons_self
        have es : sum2 (x :: Ls) = x.2.size + sum2 Ls := rfl
        rw [List.map_cons, List.nodup_cons] at hnd
        rw [List.flatMap_cons, List.reverse_append, List.append_assoc]
        refine ihL n kvs st _ o3 o4 (fun q hq => hm q (List.mem_cons_of_mem _ hq)) hn hnd.2 mv ef (by omega) fun kvs1 st1 o3 o4 mv1 ef1 hl1 hv1 hr1 => ?_
        have hdx : x.2.deep + 1 ≤ u.deep := by
          have h1 := Tr.deep_pos u
          have := (Tr.deep_kids (n := u.deep - 1)).mp (by omega) x.2 hx1
          omega
        refine ih x.2 hx1 x.1 kvs1 st1 rest o3 o4 ((Tr.ok_kids hok).2 _ hx1) mv1 ef1 (by omega) (by omega) fun kvs2 st2 o3 o4 mv2 ef2 hl2 hv2 hr2 => ?_
        refine hq kvs2 st2 o3 o4 mv2 ef2 (by omega) (fun q hq => ?_) fun r hr => ?_
        · rcases List.mem_cons.mp hq with e | hq
          · rw [e]; exact hv2
          · rw [hr2 q.1 fun hpre => ?_]
            · exact hv1 q hq
            · have : x.1 = q.1 := hpre.eq_of_length (by rw [hx2, (hm q (List.mem_cons_of_mem _ hq)).2])
              exact hnd.1 (List.mem_map.mpr ⟨q, hq, this.symm⟩)
        · rw [hr2 r (hr x List.mem_cons_self), hr1 r fun q hq => hr q (List.mem_cons_of_mem _ hq)]
    have hsz := sum2_kids p u
    rw [rowsL_eq, List.reverse_cons, List.append_assoc]
    refine many (kidsAt p u) (p.length + 1) kvs st _ o3 o4 (fun q hq => ?_) (by omega) ?_ mv ef (by omega) fun kvs1 st1 o3 o4 mv1 ef1 hl1 hv1 hr1 => ?_
    · refine ⟨?_, ?_⟩
      · rw [← kidsAt_snd p u]
        exact List.mem_map.mpr ⟨q, hq, rfl⟩
      · unfold kidsAt at hq
        obtain ⟨⟨y, i⟩, _, rfl⟩ := List.mem_map.mp hq
        simp
    · cases u <;> simp [kidsAt, Tr.kids]
    show gTp 2 _ (pr2 (p, u)) _ _ _
    unfold pr2
    simp only [sRet, sSeq, sNext, sIf, sDrop, sSet, sAsg, sPar, sPar3, sAug, sRaise, dAndV, dOrV, dNotV, dAnd, dOr, dNot, dB, dIf, dOp, dUn, dCB, dVar, dC, dNil, dCons, dTup, dLst, dChain, dCall, gNm, gTp, gsCons, gsNil, DL.gSub, nIsi, dBM, dBM0, dPart, dNoPart, dSl, dInW, dIxW, dNewK, dNewT, dRevL, dRevT, dDPop1, dItems, dLRg, iTupD, iLstD, iStrD, iEnD, iRng1D, iRng2D, oI2, oNeg, List.getElem?_cons_zero, List.getElem?_cons_succ, List.set_cons_zero, List.set_cons_succ, exists_eq_left', exists_eq_left, exists_and_left, exists_eq', and_assoc, Option.some.injEq, List.cons.injEq, D.ty.injEq, D.bl.injEq, D.int.injEq, D.str.injEq, D.tup.injEq, D.ref.injEq, and_true, true_and]
    refine ⟨rfl, ?_⟩
    refine raw_body (Γ := Γ) (ex := ex) ⟨hS.1, mv1 a _ haf hS.2⟩ haf hok ef1 (by omega) (by omega) hv1 fun st2 mv2 ef2 => ?_
    refine ⟨hc _ (mv1.trans mv2), ?_⟩
    refine hq _ st2 _ _ (mv1.trans mv2) ef2 (by have := len_put (k := keyP p) (d := .int (num S u)) (kvs := kvs1); omega) (by rw [valD_put, if_pos rfl]) fun r hr => ?_
    rw [valD_put, if_neg fun e => hr (by rw [keyP_inj e]; exact List.prefix_rfl)]
    refine hr1 r fun q hq hpre => hr ?_
    unfold kidsAt at hq
    obtain ⟨⟨y, i⟩, _, rfl⟩ := List.mem_map.mp hq
    exact (List.prefix_append p [(i : Int)]).trans hpre
end
theorem Tr.deep_size : ∀ t : Tr, t.deep ≤ t.size
  | .a0 _ => by simp [Tr.deep, Tr.size]
  | .a1 _ t => by have := t.deep_size; simp only [Tr.deep, Tr.size]; omega
  | .a2 _ t u => by have := t.deep_size; have := u.deep_size; simp only [Tr.deep, Tr.size]; omega
  | .a3 _ t u v => by have := t.deep_size; have := u.deep_size; have := v.deep_size; simp only [Tr.deep, Tr.size]; omega
theorem pure_raw_number {Γ : Gn} {ds : List D} {st : Stt} {q : DQ} {ex : DX} (h : sp_raw_number Γ ds st q ex) : t_raw_number Γ (fun x _ st => ex x st) { nx := fun _ st' => q .non st', rt := q } (dstart N_raw_number ds) st := by
  obtain ⟨S, a, t, rfl, ⟨okS, ea⟩, hok, h300, hq⟩ := h
  show t_raw_number Γ _ _ [some (S.d a), some t.d, none, none, none, none] st
  unfold t_raw_number
  simp only [sRet, sSeq, sNext, sIf, sDrop, sSet, sAsg, sPar, sPar3, sAug, sRaise, dAndV, dOrV, dNotV, dAnd, dOr, dNot, dB, dIf, dOp, dUn, dCB, dVar, dC, dNil, dCons, dTup, dLst, dChain, dCall, gNm, gTp, gsCons, gsNil, DL.gSub, nIsi, dBM, dBM0, dPart, dNoPart, dSl, dInW, dIxW, dNewK, dNewT, dRevL, dRevT, dDPop1, dItems, dLRg, iTupD, iLstD, iStrD, iEnD, iRng1D, iRng2D, oI2, oNeg, List.getElem?_cons_zero, List.getElem?_cons_succ, List.set_cons_zero, List.set_cons_succ, exists_eq_left', exists_eq_left, exists_and_left, exists_eq', and_assoc, Option.some.injEq, List.cons.injEq, D.ty.injEq, D.bl.injEq, D.int.injEq, D.str.injEq, D.tup.injEq, D.ref.injEq, and_true, true_and]
  intro fd nf
  unfold u_raw_number_1
  simp only [sSeq, sFor]
  simp only [sRet, sSeq, sNext, sIf, sDrop, sSet, sAsg, sPar, sPar3, sAug, sRaise, dAndV, dOrV, dNotV, dAnd, dOr, dNot, dB, dIf, dOp, dUn, dCB, dVar, dC, dNil, dCons, dTup, dLst, dChain, dCall, gNm, gTp, gsCons, gsNil, DL.gSub, nIsi, dBM, dBM0, dPart, dNoPart, dSl, dInW, dIxW, dNewK, dNewT, dRevL, dRevT, dDPop1, dItems, dLRg, iTupD, iLstD, iStrD, iEnD, iRng1D, iRng2D, oI2, oNeg, List.getElem?_cons_zero, List.getElem?_cons_succ, List.set_cons_zero, List.set_cons_succ, exists_eq_left', exists_eq_left, exists_and_left, exists_eq', and_assoc, Option.some.injEq, List.cons.injEq, D.ty.injEq, D.bl.injEq, D.int.injEq, D.str.injEq, D.tup.injEq, D.ref.injEq, and_true, true_and]
  refine ⟨t, rfl, hok, h300, fun st1 p1 x1 n1 e1 => ⟨p1, rfl, _, e1, fun p2 n2 => ⟨_, put_same, _, lstAt_some put_same, ?_⟩⟩⟩
  have haf : a ≠ fd := neq_of ea nf
  have x2 : Ext st (put st1 p2 (.lst (rowsL [] t).reverse)) := ((Ext.new nf).trans x1).trans (.new n2)
  have f1 : st1 fd = some (.dT []) := x1 fd _ put_same
  have f2 : put st1 p2 (.lst (rowsL [] t).reverse) fd = some (.dT []) := by rw [put_ne (neq_of f1 n2)]; exact f1
  have l2 : put st1 p2 (.lst (rowsL [] t).reverse) p2 = some (.lst (rowsL [] t).reverse) := put_same
  have hfp : p2 ≠ fd := (neq_of f1 n2).symm
  generalize put st1 p2 (.lst (rowsL [] t).reverse) = st2 at x2 f2 l2 ⊢
  have hd := Tr.deep_size t
  have := raw_sub (Γ := Γ) (ex := fun x _ st => ex x st) (chk := fun st' => lstAt p2 st' = some (rowsL [] t).reverse) (th := some t.d) (N := { nx := u_raw_number_2 Γ (fun x _ st => ex x st) { nx := fun _ st' => q .non st', rt := q }, rt := q }) haf (st0 := st2) ⟨okS, x2 a _ ea⟩ (fun st' mv => lstAt_some (mv p2 _ hfp l2)) t [] [] st2 [] none none hok .refl f2 (by simp; omega) (by simp; omega) fun kvs' st' o3 o4 mv ef hl hv _ => ?_
  · rw [List.append_nil] at this
    exact this
  · show u_raw_number_2 Γ (fun x _ st => ex x st) _ _ _
    unfold u_raw_number_2
    simp only [sRet, sSeq, sNext, sIf, sDrop, sSet, sAsg, sPar, sPar3, sAug, sRaise, dAndV, dOrV, dNotV, dAnd, dOr, dNot, dB, dIf, dOp, dUn, dCB, dVar, dC, dNil, dCons, dTup, dLst, dChain, dCall, gNm, gTp, gsCons, gsNil, DL.gSub, nIsi, dBM, dBM0, dPart, dNoPart, dSl, dInW, dIxW, dNewK, dNewT, dRevL, dRevT, dDPop1, dItems, dLRg, iTupD, iLstD, iStrD, iEnD, iRng1D, iRng2D, oI2, oNeg, List.getElem?_cons_zero, List.getElem?_cons_succ, List.set_cons_zero, List.set_cons_succ, exists_eq_left', exists_eq_left, exists_and_left, exists_eq', and_assoc, Option.some.injEq, List.cons.injEq, D.ty.injEq, D.bl.injEq, D.int.injEq, D.str.injEq, D.tup.injEq, D.ref.injEq, and_true, true_and]
    refine ⟨by decide, i_ixKT ef rfl hv (hq st' fun x o e => ?_)⟩
    exact mv x o (neq_of e nf) (x2 x o e)
theorem pure_number_of {Γ : Gn} {ds : List D} {st : Stt} {q : DQ} {ex : DX} (h : sp_number_of Γ ds st q ex) : t_number_of Γ (fun x _ st => ex x st) { nx := fun _ st' => q .non st', rt := q } (dstart N_number_of ds) st := by
  rcases h with ⟨k, t, rfl, hk, hf, hq⟩ | ⟨S, a, t, rfl, ⟨okS, ea⟩, ht, hf, hq⟩ | ⟨S, a, t, rfl, ⟨okS, ea⟩, hok, h300, h40, hq⟩
  · show t_number_of Γ _ _ [some k, some t] st
    unfold t_number_of
    simp only [sRet, sSeq, sNext, sIf, sDrop, sSet, sAsg, sPar, sPar3, sAug, sRaise, dAndV, dOrV, dNotV, dAnd, dOr, dNot, dB, dIf, dOp, dUn, dCB, dVar, dC, dNil, dCons, dTup, dLst, dChain, dCall, gNm, gTp, gsCons, gsNil, DL.gSub, nIsi, dBM, dBM0, dPart, dNoPart, dSl, dInW, dIxW, dNewK, dNewT, dRevL, dRevT, dDPop1, dItems, dLRg, iTupD, iLstD, iStrD, iEnD, iRng1D, iRng2D, oI2, oNeg, List.getElem?_cons_zero, List.getElem?_cons_succ, List.set_cons_zero, List.set_cons_succ, exists_eq_left', exists_eq_left, exists_and_left, exists_eq', and_assoc, Option.some.injEq, List.cons.injEq, D.ty.injEq, D.bl.injEq, D.int.injEq, D.str.injEq, D.tup.injEq, D.ref.injEq, and_true, true_and]
    refine ⟨k, rfl, hk, fun st' x => ?_⟩
    rw [if_neg (by rw [hf]; decide)]
    exact hq st' x
  · show t_number_of Γ _ _ [some (S.d a), some t] st
    unfold t_number_of
    simp only [sRet, sSeq, sNext, sIf, sDrop, sSet, sAsg, sPar, sPar3, sAug, sRaise, dAndV, dOrV, dNotV, dAnd, dOr, dNot, dB, dIf, dOp, dUn, dCB, dVar, dC, dNil, dCons, dTup, dLst, dChain, dCall, gNm, gTp, gsCons, gsNil, DL.gSub, nIsi, dBM, dBM0, dPart, dNoPart, dSl, dInW, dIxW, dNewK, dNewT, dRevL, dRevT, dDPop1, dItems, dLRg, iTupD, iLstD, iStrD, iEnD, iRng1D, iRng2D, oI2, oNeg, List.getElem?_cons_zero, List.getElem?_cons_succ, List.set_cons_zero, List.set_cons_succ, exists_eq_left', exists_eq_left, exists_and_left, exists_eq', and_assoc, Option.some.injEq, List.cons.injEq, D.ty.injEq, D.bl.injEq, D.int.injEq, D.str.injEq, D.tup.injEq, D.ref.injEq, and_true, true_and]
    refine ⟨S.d a, rfl, S.ty okS ea, fun st' x => ?_⟩
    rw [if_pos (S.isType okS ea)]
    unfold u_number_of_1
    simp only [sRet, sSeq, sNext, sIf, sDrop, sSet, sAsg, sPar, sPar3, sAug, sRaise, dAndV, dOrV, dNotV, dAnd, dOr, dNot, dB, dIf, dOp, dUn, dCB, dVar, dC, dNil, dCons, dTup, dLst, dChain, dCall, gNm, gTp, gsCons, gsNil, DL.gSub, nIsi, dBM, dBM0, dPart, dNoPart, dSl, dInW, dIxW, dNewK, dNewT, dRevL, dRevT, dDPop1, dItems, dLRg, iTupD, iLstD, iStrD, iEnD, iRng1D, iRng2D, oI2, oNeg, List.getElem?_cons_zero, List.getElem?_cons_succ, List.set_cons_zero, List.set_cons_succ, exists_eq_left', exists_eq_left, exists_and_left, exists_eq', and_assoc, Option.some.injEq, List.cons.injEq, D.ty.injEq, D.bl.injEq, D.int.injEq, D.str.injEq, D.tup.injEq, D.ref.injEq, and_true, true_and]
    refine ⟨t, rfl, ht.ext x, fun st2 x2 => ?_⟩
    rw [if_neg (by rw [hf]; decide)]
    exact hq st2 (x.trans x2)
  · show t_number_of Γ _ _ [some (S.d a), some t.d] st
    unfold t_number_of
    simp only [sRet, sSeq, sNext, sIf, sDrop, sSet, sAsg, sPar, sPar3, sAug, sRaise, dAndV, dOrV, dNotV, dAnd, dOr, dNot, dB, dIf, dOp, dUn, dCB, dVar, dC, dNil, dCons, dTup, dLst, dChain, dCall, gNm, gTp, gsCons, gsNil, DL.gSub, nIsi, dBM, dBM0, dPart, dNoPart, dSl, dInW, dIxW, dNewK, dNewT, dRevL, dRevT, dDPop1, dItems, dLRg, iTupD, iLstD, iStrD, iEnD, iRng1D, iRng2D, oI2, oNeg, List.getElem?_cons_zero, List.getElem?_cons_succ, List.set_cons_zero, List.set_cons_succ, exists_eq_left', exists_eq_left, exists_and_left, exists_eq', and_assoc, Option.some.injEq, List.cons.injEq, D.ty.injEq, D.bl.injEq, D.int.injEq, D.str.injEq, D.tup.injEq, D.ref.injEq, and_true, true_and]
    refine ⟨S.d a, rfl, S.ty okS ea, fun st' x => ?_⟩
    rw [if_pos (S.isType okS ea)]
    unfold u_number_of_1
    simp only [sRet, sSeq, sNext, sIf, sDrop, sSet, sAsg, sPar, sPar3, sAug, sRaise, dAndV, dOrV, dNotV, dAnd, dOr, dNot, dB, dIf, dOp, dUn, dCB, dVar, dC, dNil, dCons, dTup, dLst, dChain, dCall, gNm, gTp, gsCons, gsNil, DL.gSub, nIsi, dBM, dBM0, dPart, dNoPart, dSl, dInW, dIxW, dNewK, dNewT, dRevL, dRevT, dDPop1, dItems, dLRg, iTupD, iLstD, iStrD, iEnD, iRng1D, iRng2D, oI2, oNeg, List.getElem?_cons_zero, List.getElem?_cons_succ, List.set_cons_zero, List.set_cons_succ, exists_eq_left', exists_eq_left, exists_and_left, exists_eq', and_assoc, Option.some.injEq, List.cons.injEq, D.ty.injEq, D.bl.injEq, D.int.injEq, D.str.injEq, D.tup.injEq, D.ref.injEq, and_true, true_and]
    refine ⟨t.d, rfl, t.ty, fun st2 x2 => ?_⟩
    rw [if_pos ((treeB_iff hok).mpr ⟨h300, h40⟩)]
    unfold u_number_of_2
    simp only [sRet, sSeq, sNext, sIf, sDrop, sSet, sAsg, sPar, sPar3, sAug, sRaise, dAndV, dOrV, dNotV, dAnd, dOr, dNot, dB, dIf, dOp, dUn, dCB, dVar, dC, dNil, dCons, dTup, dLst, dChain, dCall, gNm, gTp, gsCons, gsNil, DL.gSub, nIsi, dBM, dBM0, dPart, dNoPart, dSl, dInW, dIxW, dNewK, dNewT, dRevL, dRevT, dDPop1, dItems, dLRg, iTupD, iLstD, iStrD, iEnD, iRng1D, iRng2D, oI2, oNeg, List.getElem?_cons_zero, List.getElem?_cons_succ, List.set_cons_zero, List.set_cons_succ, exists_eq_left', exists_eq_left, exists_and_left, exists_eq', and_assoc, Option.some.injEq, List.cons.injEq, D.ty.injEq, D.bl.injEq, D.int.injEq, D.str.injEq, D.tup.injEq, D.ref.injEq, and_true, true_and]
    exact ⟨S, a, t, rfl, ⟨okS, (x.trans x2) a _ ea⟩, hok, h300, fun st3 x3 => hq st3 ((x.trans x2).trans x3)⟩
theorem any_ints (n : Int) : ∀ ns : List Int, ((nI ns).any fun y => eqF y (.int n)) = decide (n ∈ ns)
  | [] => by simp [nI]
  | m :: ns => by
    have ih := any_ints n ns
    unfold nI at ih ⊢
    rw [List.map_cons, List.any_cons, ih]
    show ((m == n) || decide (n ∈ ns)) = _
    by_cases h : m = n
    · subst h; simp
    · have h2 : ¬ n = m := fun e => h e.symm
      simp [h, h2]
theorem flat_ints (ns : List Int) : (nI ns).all flatD = true := by
  unfold nI
  rw [List.all_map, List.all_eq_true]
  intro n _
  rfl
theorem pure_is_of {Γ : Gn} {ds : List D} {st : Stt} {q : DQ} {ex : DX} (h : sp_is_of Γ ds st q ex) : t_is_of Γ (fun x _ st => ex x st) { nx := fun _ st' => q .non st', rt := q } (dstart N_is_of ds) st := by
  rcases h with ⟨k, t, rfl, hk, hf, hq⟩ | ⟨S, a, t, rfl, hS, ht, hf, hq⟩ | ⟨S, a, t, rfl, hS, hok, h300, h40, hq⟩
  · show t_is_of Γ _ _ [some k, some t] st
    unfold t_is_of
    simp only [sRet, sSeq, sNext, sIf, sDrop, sSet, sAsg, sPar, sPar3, sAug, sRaise, dAndV, dOrV, dNotV, dAnd, dOr, dNot, dB, dIf, dOp, dUn, dCB, dVar, dC, dNil, dCons, dTup, dLst, dChain, dCall, gNm, gTp, gsCons, gsNil, DL.gSub, nIsi, dBM, dBM0, dPart, dNoPart, dSl, dInW, dIxW, dNewK, dNewT, dRevL, dRevT, dDPop1, dItems, dLRg, iTupD, iLstD, iStrD, iEnD, iRng1D, iRng2D, oI2, oNeg, List.getElem?_cons_zero, List.getElem?_cons_succ, List.set_cons_zero, List.set_cons_succ, exists_eq_left', exists_eq_left, exists_and_left, exists_eq', and_assoc, Option.some.injEq, List.cons.injEq, D.ty.injEq, D.bl.injEq, D.int.injEq, D.str.injEq, D.tup.injEq, D.ref.injEq, and_true, true_and]
    exact .inl ⟨k, t, rfl, hk, hf, hq⟩
  · show t_is_of Γ _ _ [some (S.d a), some t] st
    unfold t_is_of
    simp only [sRet, sSeq, sNext, sIf, sDrop, sSet, sAsg, sPar, sPar3, sAug, sRaise, dAndV, dOrV, dNotV, dAnd, dOr, dNot, dB, dIf, dOp, dUn, dCB, dVar, dC, dNil, dCons, dTup, dLst, dChain, dCall, gNm, gTp, gsCons, gsNil, DL.gSub, nIsi, dBM, dBM0, dPart, dNoPart, dSl, dInW, dIxW, dNewK, dNewT, dRevL, dRevT, dDPop1, dItems, dLRg, iTupD, iLstD, iStrD, iEnD, iRng1D, iRng2D, oI2, oNeg, List.getElem?_cons_zero, List.getElem?_cons_succ, List.set_cons_zero, List.set_cons_succ, exists_eq_left', exists_eq_left, exists_and_left, exists_eq', and_assoc, Option.some.injEq, List.cons.injEq, D.ty.injEq, D.bl.injEq, D.int.injEq, D.str.injEq, D.tup.injEq, D.ref.injEq, and_true, true_and]
    exact .inr (.inl ⟨S, a, t, rfl, hS, ht, hf, hq⟩)
  · show t_is_of Γ _ _ [some (S.d a), some t.d] st
    unfold t_is_of
    simp only [sRet, sSeq, sNext, sIf, sDrop, sSet, sAsg, sPar, sPar3, sAug, sRaise, dAndV, dOrV, dNotV, dAnd, dOr, dNot, dB, dIf, dOp, dUn, dCB, dVar, dC, dNil, dCons, dTup, dLst, dChain, dCall, gNm, gTp, gsCons, gsNil, DL.gSub, nIsi, dBM, dBM0, dPart, dNoPart, dSl, dInW, dIxW, dNewK, dNewT, dRevL, dRevT, dDPop1, dItems, dLRg, iTupD, iLstD, iStrD, iEnD, iRng1D, iRng2D, oI2, oNeg, List.getElem?_cons_zero, List.getElem?_cons_succ, List.set_cons_zero, List.set_cons_succ, exists_eq_left', exists_eq_left, exists_and_left, exists_eq', and_assoc, Option.some.injEq, List.cons.injEq, D.ty.injEq, D.bl.injEq, D.int.injEq, D.str.injEq, D.tup.injEq, D.ref.injEq, and_true, true_and]
    refine .inr (.inr ⟨S, a, t, rfl, hS, hok, h300, h40, fun st' x => ?_⟩)
    refine i_ixT (i := 2) rfl (i_inT rfl (flat_ints _) ?_)
    rw [any_ints]
    simpa using hq st' x
end K73
/-! K12: type_other, _law_hand, _law_number. -/
namespace K73
open PySem PySem.Spec L2 DL
theorem pure__law_hand {Γ : Gn} {ds : List D} {st : Stt} {q : DQ} {ex : DX} (h : sp__law_hand Γ ds st q ex) : t__law_hand Γ (fun x _ st => ex x st) { nx := fun _ st' => q .non st', rt := q } (dstart N__law_hand ds) st := by
  obtain ⟨ns, rfl, hl, hq⟩ := h
  show t__law_hand Γ _ _ [some (.scr (nI ns)), none, none] st
  unfold t__law_hand
  simp only [sRet, sSeq, sNext, sIf, sDrop, sSet, sAsg, sPar, sPar3, sAug, sRaise, dAndV, dOrV, dNotV, dAnd, dOr, dNot, dB, dIf, dOp, dUn, dCB, dVar, dC, dNil, dCons, dTup, dLst, dChain, dCall, gNm, gTp, gsCons, gsNil, DL.gSub, nIsi, dBM, dBM0, dPart, dNoPart, dSl, dInW, dIxW, dNewK, dNewT, dRevL, dRevT, dDPop1, dItems, dLRg, iTupD, iLstD, iStrD, iEnD, iRng1D, iRng2D, oI2, oNeg, List.getElem?_cons_zero, List.getElem?_cons_succ, List.set_cons_zero, List.set_cons_succ, exists_eq_left', exists_eq_left, exists_and_left, exists_eq', and_assoc, Option.some.injEq, List.cons.injEq, D.ty.injEq, D.bl.injEq, D.int.injEq, D.str.injEq, D.tup.injEq, D.ref.injEq, and_true, true_and]
  simp only [dLc]
  simp only [sRet, sSeq, sNext, sIf, sDrop, sSet, sAsg, sPar, sPar3, sAug, sRaise, dAndV, dOrV, dNotV, dAnd, dOr, dNot, dB, dIf, dOp, dUn, dCB, dVar, dC, dNil, dCons, dTup, dLst, dChain, dCall, gNm, gTp, gsCons, gsNil, DL.gSub, nIsi, dBM, dBM0, dPart, dNoPart, dSl, dInW, dIxW, dNewK, dNewT, dRevL, dRevT, dDPop1, dItems, dLRg, iTupD, iLstD, iStrD, iEnD, iRng1D, iRng2D, oI2, oNeg, List.getElem?_cons_zero, List.getElem?_cons_succ, List.set_cons_zero, List.set_cons_succ, exists_eq_left', exists_eq_left, exists_and_left, exists_eq', and_assoc, Option.some.injEq, List.cons.injEq, D.ty.injEq, D.bl.injEq, D.int.injEq, D.str.injEq, D.tup.injEq, D.ref.injEq, and_true, true_and]
  refine .inr (.inl ⟨nI ns, rfl, fun p np => ⟨p, rfl, _, put_same, ?_⟩⟩)
  have e0 : cutL (nI ns) none (some 63) = nI ((ns.drop (HT.sIx (nI ns).length 0 none)).take (HT.sIx (nI ns).length (nI ns).length (some 63) - HT.sIx (nI ns).length 0 none)) := by
    unfold cutL nI
    rw [List.map_take, List.map_drop]
  rw [e0]
  have hl2 : ((ns.drop (HT.sIx (nI ns).length 0 none)).take (HT.sIx (nI ns).length (nI ns).length (some 63) - HT.sIx (nI ns).length 0 none)).length ≤ 63 := by
    rw [List.length_take, List.length_drop]
    omega
  generalize (ns.drop (HT.sIx (nI ns).length 0 none)).take (HT.sIx (nI ns).length (nI ns).length (some 63) - HT.sIx (nI ns).length 0 none) = ms at hl2 ⊢
  refine lcP (fun d => match d with
    | .int i => .int ((if i < 0 then -i else i) % 10 ^ 36)
    | _ => .non) (fun st' x => lstAt_some (x p _ put_same)) (by unfold nI; rw [sizeLine_eq, List.length_map]; omega) (fun d hd b st' acc np' x e K1 hK => ?_) fun c st' np' x e => ?_
  · obtain ⟨i, _, rfl⟩ := List.mem_map.mp hd
    (simp only [CT.dg, dwipe]; simp only [sRet, sSeq, sNext, sIf, sDrop, sSet, sAsg, sPar, sPar3, sAug, sRaise, dAndV, dOrV, dNotV, dAnd, dOr, dNot, dB, dIf, dOp, dUn, dCB, dVar, dC, dNil, dCons, dTup, dLst, dChain, dCall, gNm, gTp, gsCons, gsNil, DL.gSub, nIsi, dBM, dBM0, dPart, dNoPart, dSl, dInW, dIxW, dNewK, dNewT, dRevL, dRevT, dDPop1, dItems, dLRg, iTupD, iLstD, iStrD, iEnD, iRng1D, iRng2D, oI2, oNeg, List.getElem?_cons_zero, List.getElem?_cons_succ, List.set_cons_zero, List.set_cons_succ, exists_eq_left', exists_eq_left, exists_and_left, exists_eq', and_assoc, Option.some.injEq, List.cons.injEq, D.ty.injEq, D.bl.injEq, D.int.injEq, D.str.injEq, D.tup.injEq, D.ref.injEq, and_true, true_and])
    exact i_int ⟨i, rfl, i_int ⟨⟨by decide, by decide, by decide⟩, i_mod (by decide) hK⟩⟩
  · have e2 : st' c = some (.lst (nI (ms.map fun i => (if i < 0 then -i else i) % 10 ^ 36))) := by
      rw [e]
      unfold nI
      rw [List.map_map, List.map_map]
      rfl
    unfold u__law_hand_1
    simp only [sRet, sSeq, sNext, sIf, sDrop, sSet, sAsg, sPar, sPar3, sAug, sRaise, dAndV, dOrV, dNotV, dAnd, dOr, dNot, dB, dIf, dOp, dUn, dCB, dVar, dC, dNil, dCons, dTup, dLst, dChain, dCall, gNm, gTp, gsCons, gsNil, DL.gSub, nIsi, dBM, dBM0, dPart, dNoPart, dSl, dInW, dIxW, dNewK, dNewT, dRevL, dRevT, dDPop1, dItems, dLRg, iTupD, iLstD, iStrD, iEnD, iRng1D, iRng2D, oI2, oNeg, List.getElem?_cons_zero, List.getElem?_cons_succ, List.set_cons_zero, List.set_cons_succ, exists_eq_left', exists_eq_left, exists_and_left, exists_eq', and_assoc, Option.some.injEq, List.cons.injEq, D.ty.injEq, D.bl.injEq, D.int.injEq, D.str.injEq, D.tup.injEq, D.ref.injEq, and_true, true_and]
    refine i_lenL e2 ⟨mul_l (by decide) (by decide), by rw [sizeLine_eq]; simp, fun h nh => ?_⟩
    have x2 : Ext st st' := (Ext.new np).trans x
    have hch : c ≠ h := neq_of e2 nh
    exact hq _ h (x2.trans (.new nh)) (x2.none nh) ⟨c, _, 0, 0, _, 0, hch, put_same, by rw [put_ne hch]; exact e2, by decide⟩
/-! ### the kids' numbers -/
theorem Tr.d_inj : ∀ {t u : Tr}, t.d = u.d → t = u
  | .a0 x, .a0 y, h => by simp [Tr.d] at h; rw [h]
  | .a1 x t, .a1 y u, h => by simp [Tr.d] at h; rw [h.1, Tr.d_inj h.2]
  | .a2 x t u, .a2 y t' u', h => by simp [Tr.d] at h; rw [h.1, Tr.d_inj h.2.1, Tr.d_inj h.2.2]
  | .a3 x t u v, .a3 y t' u' v', h => by simp [Tr.d] at h; rw [h.1, Tr.d_inj h.2.1, Tr.d_inj h.2.2.1, Tr.d_inj h.2.2.2]
  | .a0 _, .a1 _ _, h => by simp [Tr.d] at h
  | .a0 _, .a2 _ _ _, h => by simp [Tr.d] at h
  | .a0 _, .a3 _ _ _ _, h => by simp [Tr.d] at h
  | .a1 _ _, .a0 _, h => by simp [Tr.d] at h
  | .a1 _ _, .a2 _ _ _, h => by simp [Tr.d] at h
  | .a1 _ _, .a3 _ _ _ _, h => by simp [Tr.d] at h
  | .a2 _ _ _, .a0 _, h => by simp [Tr.d] at h
  | .a2 _ _ _, .a1 _ _, h => by simp [Tr.d] at h
  | .a2 _ _ _, .a3 _ _ _ _, h => by simp [Tr.d] at h
  | .a3 _ _ _ _, .a0 _, h => by simp [Tr.d] at h
  | .a3 _ _ _ _, .a1 _ _, h => by simp [Tr.d] at h
  | .a3 _ _ _ _, .a2 _ _ _, h => by simp [Tr.d] at h
theorem fm_kids {f : Tr → D} {R : D → Option D → Prop} : ∀ {us : List Tr} {ys : List D}, (∀ u ∈ us, ∀ y, R u.d y → y = some (f u)) → Fm R (us.map Tr.d) ys → ys = us.map f
  | [], _, _, .nil => rfl
  | u :: us, _, hR, .yes r fm => by
    have := hR u List.mem_cons_self _ r
    cases this
    rw [fm_kids (fun u hu => hR u (List.mem_cons_of_mem _ hu)) fm] <;> rfl
  | u :: us, _, hR, .no r _ => by
    have := hR u List.mem_cons_self _ r
    cases this
theorem pure__law_number {Γ : Gn} {n : Nat} {ds : List D} {st : Stt} {q : DQ} {ex : DX} (h : sp__law_numberN (n + 1) ds st q ex) : t__law_number Γ (sp__law_numberN n) (fun x _ st => ex x st) { nx := fun _ st' => q .non st', rt := q } (dstart N__law_number ds) st := by
  obtain ⟨S, a, t, rfl, ⟨okS, ea⟩, hok, hdp, hq⟩ := h
  show t__law_number Γ _ _ _ [some (S.d a), some t.d, none] st
  unfold t__law_number
  simp only [sRet, sSeq, sNext, sIf, sDrop, sSet, sAsg, sPar, sPar3, sAug, sRaise, dAndV, dOrV, dNotV, dAnd, dOr, dNot, dB, dIf, dOp, dUn, dCB, dVar, dC, dNil, dCons, dTup, dLst, dChain, dCall, gNm, gTp, gsCons, gsNil, DL.gSub, nIsi, dBM, dBM0, dPart, dNoPart, dSl, dInW, dIxW, dNewK, dNewT, dRevL, dRevT, dDPop1, dItems, dLRg, iTupD, iLstD, iStrD, iEnD, iRng1D, iRng2D, oI2, oNeg, List.getElem?_cons_zero, List.getElem?_cons_succ, List.set_cons_zero, List.set_cons_succ, exists_eq_left', exists_eq_left, exists_and_left, exists_eq', and_assoc, Option.some.injEq, List.cons.injEq, D.ty.injEq, D.bl.injEq, D.int.injEq, D.str.injEq, D.tup.injEq, D.ref.injEq, and_true, true_and]
  simp only [dLc]
  simp only [sRet, sSeq, sNext, sIf, sDrop, sSet, sAsg, sPar, sPar3, sAug, sRaise, dAndV, dOrV, dNotV, dAnd, dOr, dNot, dB, dIf, dOp, dUn, dCB, dVar, dC, dNil, dCons, dTup, dLst, dChain, dCall, gNm, gTp, gsCons, gsNil, DL.gSub, nIsi, dBM, dBM0, dPart, dNoPart, dSl, dInW, dIxW, dNewK, dNewT, dRevL, dRevT, dDPop1, dItems, dLRg, iTupD, iLstD, iStrD, iEnD, iRng1D, iRng2D, oI2, oNeg, List.getElem?_cons_zero, List.getElem?_cons_succ, List.set_cons_zero, List.set_cons_succ, exists_eq_left', exists_eq_left, exists_and_left, exists_eq', and_assoc, Option.some.injEq, List.cons.injEq, D.ty.injEq, D.bl.injEq, D.int.injEq, D.str.injEq, D.tup.injEq, D.ref.injEq, and_true, true_and]
  have hd := t.d_kids
  have h3 := t.kids_len
  rw [hd]
  refine i_ixT (i := 0) rfl (i_slT ⟨_, rfl, ?_⟩)
  rw [cut1]
  refine lcGc (Ext st) (fun d y => ∃ u ∈ t.kids, d = u.d ∧ y = some (.int (num S u))) .refl (fun p st' acc np x => x.put np) (by rw [sizeLine_eq]; simp; omega) (fun d hdm p st' acc np x e K1 K0 h1 _ => ?_) fun ys p st' fm np x e => ?_
  · obtain ⟨u, hu, rfl⟩ := List.mem_map.mp hdm
    (simp only [CT.dg, dwipe]; simp only [sRet, sSeq, sNext, sIf, sDrop, sSet, sAsg, sPar, sPar3, sAug, sRaise, dAndV, dOrV, dNotV, dAnd, dOr, dNot, dB, dIf, dOp, dUn, dCB, dVar, dC, dNil, dCons, dTup, dLst, dChain, dCall, gNm, gTp, gsCons, gsNil, DL.gSub, nIsi, dBM, dBM0, dPart, dNoPart, dSl, dInW, dIxW, dNewK, dNewT, dRevL, dRevT, dDPop1, dItems, dLRg, iTupD, iLstD, iStrD, iEnD, iRng1D, iRng2D, oI2, oNeg, List.getElem?_cons_zero, List.getElem?_cons_succ, List.set_cons_zero, List.set_cons_succ, exists_eq_left', exists_eq_left, exists_and_left, exists_eq', and_assoc, Option.some.injEq, List.cons.injEq, D.ty.injEq, D.bl.injEq, D.int.injEq, D.str.injEq, D.tup.injEq, D.ref.injEq, and_true, true_and])
    exact ⟨S, a, u, rfl, ⟨okS, x a _ ea⟩, (Tr.ok_kids hok).2 u hu, (Tr.deep_kids.mp hdp) u hu, fun st2 x2 => h1 _ st2 ⟨u, hu, rfl, rfl⟩ (x.trans x2) (x2 p _ e)⟩
  · have e1 : ys = t.kids.map fun u => .int (num S u) := fm_kids (fun u hu y ⟨u', _, h2, h3⟩ => by rw [h3, Tr.d_inj h2]) fm
    obtain ⟨b0, b1, b2⟩ := num_at okS hok
    refine ⟨S.many, a, p, .tup (nI S.good), t.sg, S.tbl, nI (S.row t.sg), t.kids.map (num S), _, rfl, okS.m5, x a _ ea, b2, ?_, b0, b1, hq st' x⟩
    rw [e, e1]
    unfold nI
    rw [List.map_map] <;> rfl
/-! ### type_other -/
theorem merge_new : ∀ (more acc : List (Key × D)), ((acc ++ more).map (·.1)).Nodup → mergeD acc more = acc ++ more
  | [], acc, _ => by simp [mergeD]
  | (k, d) :: more, acc, h => by
    have hn : valD acc k = none := by
      cases e : valD acc k with
      | none => rfl
      | some v =>
        exfalso
        have hm := valD_mem e
        rw [List.map_append, List.map_cons, List.nodup_append] at h
        exact h.2.2 k (List.mem_map.mpr ⟨_, hm, rfl⟩) k List.mem_cons_self rfl
    show mergeD (putD acc k d) more = _
    unfold putD
    rw [hn]
    rw [if_neg (by simp), merge_new more (acc ++ [(k, d)]) (by simpa using h)]
    simp
theorem pairs_str (f : Str → D) : ∀ xs : List Str, pairsD (xs.map fun x => .tup [.str x, f x]) = some (xs.map fun x => (Sum.inr x, f x))
  | [] => rfl
  | x :: xs => by
    have ih := pairs_str f xs
    show (match keyD (.str x), pairsD (xs.map fun x => .tup [.str x, f x]) with
      | some k', some r' => some ((k', f x) :: r')
      | _, _ => none) = _
    rw [ih] <;> rfl
theorem notin_ints (n : Int) (ns : List Int) : (!((nI ns).any fun y => eqF y (.int n))) = decide (n ∉ ns) := by
  rw [any_ints]
  by_cases h : n ∈ ns <;> simp [h]
/-- of ints alone -/
def onI (f : Int → Bool) : D → Bool
  | .int i => f i
  | _ => false
theorem range_filt (f : Int → Bool) (m : Nat) : (rngL 0 m).filter (onI f) = nI (((List.range m).map fun i => ((i : Nat) : Int)).filter f) := by
  unfold rngL nI
  rw [List.filter_map, List.filter_map, List.map_map]
  have : (onI f ∘ fun i => D.int (0 + ((i : Nat) : Int))) = f ∘ fun i => ((i : Nat) : Int) := by
    funext i
    simp [onI]
  rw [this]
  refine List.map_congr_left fun i _ => ?_
  simp
theorem sgs_nodup : SGs.Nodup := by decide +kernel
theorem Srt.other_tbl (S : Srt) : S.other.tbl = SGs.map fun x => (Sum.inr x, .tup (nI (S.row x))) := by
  unfold Srt.tbl Srt.other
  rw [List.map_map] <;> rfl
theorem other_keys (S : Srt) : (S.other.tbl.map (·.1)).Nodup := by
  rw [Srt.other_tbl, List.map_map]
  have : ((fun x : Key × D => x.1) ∘ fun x : Str => ((Sum.inr x : Key), D.tup (nI (S.row x)))) = fun x => Sum.inr x := rfl
  rw [this]
  decide +kernel
theorem pure_type_other {Γ : Gn} {ds : List D} {st : Stt} {q : DQ} {ex : DX} (h : sp_type_other Γ ds st q ex) : t_type_other Γ (fun x _ st => ex x st) { nx := fun _ st' => q .non st', rt := q } (dstart N_type_other ds) st := by
  rcases h with ⟨k, rfl, hk, hf, hq⟩ | ⟨S, a, rfl, ⟨okS, ea⟩, hq⟩
  · show t_type_other Γ _ _ [some k, none, none, none] st
    unfold t_type_other
    simp only [sRet, sSeq, sNext, sIf, sDrop, sSet, sAsg, sPar, sPar3, sAug, sRaise, dAndV, dOrV, dNotV, dAnd, dOr, dNot, dB, dIf, dOp, dUn, dCB, dVar, dC, dNil, dCons, dTup, dLst, dChain, dCall, gNm, gTp, gsCons, gsNil, DL.gSub, nIsi, dBM, dBM0, dPart, dNoPart, dSl, dInW, dIxW, dNewK, dNewT, dRevL, dRevT, dDPop1, dItems, dLRg, iTupD, iLstD, iStrD, iEnD, iRng1D, iRng2D, oI2, oNeg, List.getElem?_cons_zero, List.getElem?_cons_succ, List.set_cons_zero, List.set_cons_succ, exists_eq_left', exists_eq_left, exists_and_left, exists_eq', and_assoc, Option.some.injEq, List.cons.injEq, D.ty.injEq, D.bl.injEq, D.int.injEq, D.str.injEq, D.tup.injEq, D.ref.injEq, and_true, true_and]
    refine ⟨k, rfl, hk, fun st' x => ?_⟩
    rw [if_neg (by rw [hf]; decide)]
    exact hq st' x
  · show t_type_other Γ _ _ [some (S.d a), none, none, none] st
    unfold t_type_other
    simp only [sRet, sSeq, sNext, sIf, sDrop, sSet, sAsg, sPar, sPar3, sAug, sRaise, dAndV, dOrV, dNotV, dAnd, dOr, dNot, dB, dIf, dOp, dUn, dCB, dVar, dC, dNil, dCons, dTup, dLst, dChain, dCall, gNm, gTp, gsCons, gsNil, DL.gSub, nIsi, dBM, dBM0, dPart, dNoPart, dSl, dInW, dIxW, dNewK, dNewT, dRevL, dRevT, dDPop1, dItems, dLRg, iTupD, iLstD, iStrD, iEnD, iRng1D, iRng2D, oI2, oNeg, List.getElem?_cons_zero, List.getElem?_cons_succ, List.set_cons_zero, List.set_cons_succ, exists_eq_left', exists_eq_left, exists_and_left, exists_eq', and_assoc, Option.some.injEq, List.cons.injEq, D.ty.injEq, D.bl.injEq, D.int.injEq, D.str.injEq, D.tup.injEq, D.ref.injEq, and_true, true_and]
    refine ⟨S.d a, rfl, S.ty okS ea, fun st1 x1 => ?_⟩
    rw [if_pos (S.isType okS ea)]
    unfold u_type_other_1
    simp only [sRet, sSeq, sNext, sIf, sDrop, sSet, sAsg, sPar, sPar3, sAug, sRaise, dAndV, dOrV, dNotV, dAnd, dOr, dNot, dB, dIf, dOp, dUn, dCB, dVar, dC, dNil, dCons, dTup, dLst, dChain, dCall, gNm, gTp, gsCons, gsNil, DL.gSub, nIsi, dBM, dBM0, dPart, dNoPart, dSl, dInW, dIxW, dNewK, dNewT, dRevL, dRevT, dDPop1, dItems, dLRg, iTupD, iLstD, iStrD, iEnD, iRng1D, iRng2D, oI2, oNeg, List.getElem?_cons_zero, List.getElem?_cons_succ, List.set_cons_zero, List.set_cons_succ, exists_eq_left', exists_eq_left, exists_and_left, exists_eq', and_assoc, Option.some.injEq, List.cons.injEq, D.ty.injEq, D.bl.injEq, D.int.injEq, D.str.injEq, D.tup.injEq, D.ref.injEq, and_true, true_and]
    simp only [dLc]
    simp only [sRet, sSeq, sNext, sIf, sDrop, sSet, sAsg, sPar, sPar3, sAug, sRaise, dAndV, dOrV, dNotV, dAnd, dOr, dNot, dB, dIf, dOp, dUn, dCB, dVar, dC, dNil, dCons, dTup, dLst, dChain, dCall, gNm, gTp, gsCons, gsNil, DL.gSub, nIsi, dBM, dBM0, dPart, dNoPart, dSl, dInW, dIxW, dNewK, dNewT, dRevL, dRevT, dDPop1, dItems, dLRg, iTupD, iLstD, iStrD, iEnD, iRng1D, iRng2D, oI2, oNeg, List.getElem?_cons_zero, List.getElem?_cons_succ, List.set_cons_zero, List.set_cons_succ, exists_eq_left', exists_eq_left, exists_and_left, exists_eq', and_assoc, Option.some.injEq, List.cons.injEq, D.ty.injEq, D.bl.injEq, D.int.injEq, D.str.injEq, D.tup.injEq, D.ref.injEq, and_true, true_and]
    rw [signs_eq]
    refine lcPc (fun d => match d with
      | .str x => .tup [.str x, .tup (nI (S.row x))]
      | _ => .non) (by decide) (fun d hd p st' acc np x e K1 hK => ?_) fun p st2 np x2 e => ?_
    · obtain ⟨y, hy, rfl⟩ := List.mem_map.mp hd
      (simp only [CT.dg, dwipe]; simp only [sRet, sSeq, sNext, sIf, sDrop, sSet, sAsg, sPar, sPar3, sAug, sRaise, dAndV, dOrV, dNotV, dAnd, dOr, dNot, dB, dIf, dOp, dUn, dCB, dVar, dC, dNil, dCons, dTup, dLst, dChain, dCall, gNm, gTp, gsCons, gsNil, DL.gSub, nIsi, dBM, dBM0, dPart, dNoPart, dSl, dInW, dIxW, dNewK, dNewT, dRevL, dRevT, dDPop1, dItems, dLRg, iTupD, iLstD, iStrD, iEnD, iRng1D, iRng2D, oI2, oNeg, List.getElem?_cons_zero, List.getElem?_cons_succ, List.set_cons_zero, List.set_cons_succ, exists_eq_left', exists_eq_left, exists_and_left, exists_eq', and_assoc, Option.some.injEq, List.cons.injEq, D.ty.injEq, D.bl.injEq, D.int.injEq, D.str.injEq, D.tup.injEq, D.ref.injEq, and_true, true_and])
      exact i_ixT (i := 1) rfl (i_ixK ((x1.trans x) a _ ea) rfl (S.tbl_at okS hy) ⟨by rw [sizeLine_eq]; simp, hK⟩)
    · rw [List.map_map] at e
      refine ⟨p, rfl, .inl ⟨_, _, e, pairs_str (fun x => .tup (nI (S.row x))) SGs, fun r nr => ?_⟩⟩
      have em : mergeD [] (SGs.map fun x => ((Sum.inr x : Key), D.tup (nI (S.row x)))) = S.other.tbl := by
        rw [← Srt.other_tbl, merge_new _ _ (by simpa using other_keys S)] <;> rfl
      rw [em]
      have x3 : Ext st (put st2 r (.dK S.other.tbl)) := (x1.trans x2).trans (.new nr)
      have r3 : put st2 r (.dK S.other.tbl) r = some (.dK S.other.tbl) := put_same
      have nr0 : st r = none := (x1.trans x2).none nr
      generalize put st2 r (.dK S.other.tbl) = st3 at x3 r3 ⊢
      unfold u_type_other_2
      simp only [sRet, sSeq, sNext, sIf, sDrop, sSet, sAsg, sPar, sPar3, sAug, sRaise, dAndV, dOrV, dNotV, dAnd, dOr, dNot, dB, dIf, dOp, dUn, dCB, dVar, dC, dNil, dCons, dTup, dLst, dChain, dCall, gNm, gTp, gsCons, gsNil, DL.gSub, nIsi, dBM, dBM0, dPart, dNoPart, dSl, dInW, dIxW, dNewK, dNewT, dRevL, dRevT, dDPop1, dItems, dLRg, iTupD, iLstD, iStrD, iEnD, iRng1D, iRng2D, oI2, oNeg, List.getElem?_cons_zero, List.getElem?_cons_succ, List.set_cons_zero, List.set_cons_succ, exists_eq_left', exists_eq_left, exists_and_left, exists_eq', and_assoc, Option.some.injEq, List.cons.injEq, D.ty.injEq, D.bl.injEq, D.int.injEq, D.str.injEq, D.tup.injEq, D.ref.injEq, and_true, true_and]
      simp only [dLc]
      simp only [sRet, sSeq, sNext, sIf, sDrop, sSet, sAsg, sPar, sPar3, sAug, sRaise, dAndV, dOrV, dNotV, dAnd, dOr, dNot, dB, dIf, dOp, dUn, dCB, dVar, dC, dNil, dCons, dTup, dLst, dChain, dCall, gNm, gTp, gsCons, gsNil, DL.gSub, nIsi, dBM, dBM0, dPart, dNoPart, dSl, dInW, dIxW, dNewK, dNewT, dRevL, dRevT, dDPop1, dItems, dLRg, iTupD, iLstD, iStrD, iEnD, iRng1D, iRng2D, oI2, oNeg, List.getElem?_cons_zero, List.getElem?_cons_succ, List.set_cons_zero, List.set_cons_succ, exists_eq_left', exists_eq_left, exists_and_left, exists_eq', and_assoc, Option.some.injEq, List.cons.injEq, D.ty.injEq, D.bl.injEq, D.int.injEq, D.str.injEq, D.tup.injEq, D.ref.injEq, and_true, true_and]
      refine i_ixT (i := 0) rfl (i_ixT (i := 0) rfl ⟨_, rfl, by have := okS.m5; omega, by have := okS.m5; omega, ?_⟩)
      rw [Int.toNat_natCast]
      refine lcGc (Ext st3) (fun d y => y = if onI (fun i => decide (i ∉ S.good)) d = true then some d else none) .refl (fun p st' acc np x => x.put np) (by unfold rngL; rw [sizeLine_eq]; simp; have := okS.m5; omega) (fun d hd p st' acc np x e K1 K0 h1 h0 => ?_) fun ys p st4 fm np x4 e4 => ?_
      · obtain ⟨i, _, rfl⟩ := List.mem_map.mp hd
        (simp only [CT.dg, dwipe]; simp only [sRet, sSeq, sNext, sIf, sDrop, sSet, sAsg, sPar, sPar3, sAug, sRaise, dAndV, dOrV, dNotV, dAnd, dOr, dNot, dB, dIf, dOp, dUn, dCB, dVar, dC, dNil, dCons, dTup, dLst, dChain, dCall, gNm, gTp, gsCons, gsNil, DL.gSub, nIsi, dBM, dBM0, dPart, dNoPart, dSl, dInW, dIxW, dNewK, dNewT, dRevL, dRevT, dDPop1, dItems, dLRg, iTupD, iLstD, iStrD, iEnD, iRng1D, iRng2D, oI2, oNeg, List.getElem?_cons_zero, List.getElem?_cons_succ, List.set_cons_zero, List.set_cons_succ, exists_eq_left', exists_eq_left, exists_and_left, exists_eq', and_assoc, Option.some.injEq, List.cons.injEq, D.ty.injEq, D.bl.injEq, D.int.injEq, D.str.injEq, D.tup.injEq, D.ref.injEq, and_true, true_and])
        refine i_ixT (i := 2) rfl (i_inT rfl (flat_ints _) ⟨_, rfl, ?_⟩)
        rw [Bool.true_xor, notin_ints]
        cases eg : decide (0 + ((i : Nat) : Int) ∉ S.good) with
        | true =>
          rw [if_pos rfl]
          exact h1 _ _ (by simp only [onI, eg]; rfl) x e
        | false =>
          rw [if_neg (by decide)]
          exact h0 _ (by simp only [onI, eg]; rfl) x e
      · have e5 := fm.filt fun d y h => h
        rw [range_filt] at e5
        refine ⟨_, rfl, .inr ⟨p, ys, rfl, e4, by rw [sizeLine_eq]; simp, ?_⟩⟩
        rw [e5]
        exact hq st4 r (x3.trans x4) nr0 (x4 r _ r3)
end K73
/-! K13: _law_tree, _law_chain, _law_full. -/
namespace K73
open PySem PySem.Spec L2 DL
theorem HandOk.ne {h : Addr} {a : Stt} (e : HandOk a h) {p : Addr} (n : a p = .none) : p ≠ h := by
  obtain ⟨c, cells, i, j, k, l, _, e1, _⟩ := e
  exact (neq_of e1 n).symm
theorem Dr.put {h p : Addr} {a : Stt} {o : O} (e : HandOk a h) (n : a p = .none) : Dr h a (put a p o) := Dr.new e (.refl e) n
/-! ### drawn trees -/
theorem mk_tree {x : Str} {ts : List Tr} {n : Nat} (hx : RK.lookup x = some (ts.length : Int)) (hk : ∀ t ∈ ts, t.ok ∧ t.deep ≤ n) : ∃ t : Tr, t.d = .tup (.str x :: ts.map Tr.d) ∧ t.ok ∧ t.deep ≤ n + 1 := by
  obtain ⟨_, _, _, h3⟩ := rk_of hx
  match ts, hx, hk, h3 with
  | [], hx, _, _ => exact ⟨.a0 x, rfl, hx, by simp [Tr.deep]⟩
  | [t], hx, hk, _ =>
    obtain ⟨a, b⟩ := hk t (by simp)
    exact ⟨.a1 x t, rfl, ⟨hx, a⟩, by simp only [Tr.deep]; omega⟩
  | [t, u], hx, hk, _ =>
    obtain ⟨a, b⟩ := hk t (by simp)
    obtain ⟨c, d⟩ := hk u (by simp)
    exact ⟨.a2 x t u, rfl, ⟨hx, a, c⟩, by simp only [Tr.deep]; omega⟩
  | [t, u, v], hx, hk, _ =>
    obtain ⟨a, b⟩ := hk t (by simp)
    obtain ⟨c, d⟩ := hk u (by simp)
    obtain ⟨e, f⟩ := hk v (by simp)
    exact ⟨.a3 x t u v, rfl, ⟨hx, a, c, e⟩, by simp only [Tr.deep]; omega⟩
  | _ :: _ :: _ :: _ :: _, _, _, h3 => simp at h3; omega
theorem fm_trees {R : D → Option D → Prop} {P : Tr → Prop} (hR : ∀ d y, R d y → ∃ t : Tr, y = some t.d ∧ P t) {ds ys : List D} (h : Fm R ds ys) : ∃ ts : List Tr, ys = ts.map Tr.d ∧ ts.length = ds.length ∧ ∀ t ∈ ts, P t := by
  induction h with
  | nil => exact ⟨[], rfl, rfl, fun t ht => by cases ht⟩
  | yes r _ ih =>
    obtain ⟨t, e, hp⟩ := hR _ _ r
    cases e
    obtain ⟨ts, e1, e2, e3⟩ := ih
    exact ⟨t :: ts, by rw [e1] <;> rfl, by simp [e2], fun u hu => (List.mem_cons.mp hu).elim (fun z => z ▸ hp) (e3 u)⟩
  | no r _ _ => obtain ⟨t, e, _⟩ := hR _ _ r; cases e
theorem ranks_mem {x : D} (h : x ∈ ranksL) : ∃ s r, x = .tup [.str s, .int r] ∧ RK.lookup s = some r := by
  unfold ranksL at h
  obtain ⟨⟨s, r⟩, hm, rfl⟩ := List.mem_map.mp h
  refine ⟨s, r, rfl, ?_⟩
  have key : ∀ p ∈ RK, RK.lookup p.1 = some p.2 := by decide +kernel
  exact key _ hm
theorem ranks3_mem {x : D} (h : x ∈ cutL ranksL none (some 3)) : ∃ s, x = .tup [.str s, .int 0] ∧ RK.lookup s = some 0 := by
  have e : cutL ranksL none (some 3) = [.tup [.str "a", .int 0], .tup [.str "b", .int 0], .tup [.str "c", .int 0]] := rfl
  rw [e] at h
  simp only [List.mem_cons, List.not_mem_nil, or_false] at h
  rcases h with rfl | rfl | rfl
  · exact ⟨"a", rfl, by decide +kernel⟩
  · exact ⟨"b", rfl, by decide +kernel⟩
  · exact ⟨"c", rfl, by decide +kernel⟩
section
variable {Γ : Gn} {ex : DXE} {n : Nat} {h : Addr} {k : Nat} {q : DQ} {nx : DEnv → Stt → Prop}
theorem tree_1 {st : Stt} {s : Str} {r : Int} (hh : HandOk st h) (hr : RK.lookup s = some r) (hk : k < n + 1) (hk3 : k ≤ 3) (h0 : k = 0 → r = 0) (hq : ∀ (t : Tr) st', t.ok → t.deep ≤ k + 1 → Dr h st st' → q t.d st') :
    u__law_tree_1 Γ (sp__law_treeN n) ex { nx := nx, rt := q } [some (.ref h), some (.int k), some (.str s), some (.int r), none] st := by
  unfold u__law_tree_1
  simp only [sRet, sSeq, sNext, sIf, sDrop, sSet, sAsg, sPar, sPar3, sAug, sRaise, dAndV, dOrV, dNotV, dAnd, dOr, dNot, dB, dIf, dOp, dUn, dCB, dVar, dC, dNil, dCons, dTup, dLst, dChain, dCall, gNm, gTp, gsCons, gsNil, DL.gSub, nIsi, dBM, dBM0, dPart, dNoPart, dSl, dInW, dIxW, dNewK, dNewT, dRevL, dRevT, dDPop1, dItems, dLRg, iTupD, iLstD, iStrD, iEnD, iRng1D, iRng2D, oI2, oNeg, List.getElem?_cons_zero, List.getElem?_cons_succ, List.set_cons_zero, List.set_cons_succ, exists_eq_left', exists_eq_left, exists_and_left, exists_eq', and_assoc, Option.some.injEq, List.cons.injEq, D.ty.injEq, D.bl.injEq, D.int.injEq, D.str.injEq, D.tup.injEq, D.ref.injEq, and_true, true_and]
  simp only [dLc]
  simp only [sRet, sSeq, sNext, sIf, sDrop, sSet, sAsg, sPar, sPar3, sAug, sRaise, dAndV, dOrV, dNotV, dAnd, dOr, dNot, dB, dIf, dOp, dUn, dCB, dVar, dC, dNil, dCons, dTup, dLst, dChain, dCall, gNm, gTp, gsCons, gsNil, DL.gSub, nIsi, dBM, dBM0, dPart, dNoPart, dSl, dInW, dIxW, dNewK, dNewT, dRevL, dRevT, dDPop1, dItems, dLRg, iTupD, iLstD, iStrD, iEnD, iRng1D, iRng2D, oI2, oNeg, List.getElem?_cons_zero, List.getElem?_cons_succ, List.set_cons_zero, List.set_cons_succ, exists_eq_left', exists_eq_left, exists_and_left, exists_eq', and_assoc, Option.some.injEq, List.cons.injEq, D.ty.injEq, D.bl.injEq, D.int.injEq, D.str.injEq, D.tup.injEq, D.ref.injEq, and_true, true_and]
  obtain ⟨_, _, hr0, hr3⟩ := rk_of hr
  refine ⟨by rw [sizeLine_eq]; simp, by omega, by omega, ?_⟩
  refine lcGc (Dr h st) (fun d y => ∃ t : Tr, y = some t.d ∧ t.ok ∧ t.deep ≤ k) (.refl hh) (fun p st' acc np x => x.new hh np) (by unfold rngL; rw [sizeLine_eq]; simp; omega) (fun d hd p st' acc np x e K1 K0 h1 _ => ?_) fun ys p st' fm np x e => ?_
  · (simp only [CT.dg, dwipe]; simp only [sRet, sSeq, sNext, sIf, sDrop, sSet, sAsg, sPar, sPar3, sAug, sRaise, dAndV, dOrV, dNotV, dAnd, dOr, dNot, dB, dIf, dOp, dUn, dCB, dVar, dC, dNil, dCons, dTup, dLst, dChain, dCall, gNm, gTp, gsCons, gsNil, DL.gSub, nIsi, dBM, dBM0, dPart, dNoPart, dSl, dInW, dIxW, dNewK, dNewT, dRevL, dRevT, dDPop1, dItems, dLRg, iTupD, iLstD, iStrD, iEnD, iRng1D, iRng2D, oI2, oNeg, List.getElem?_cons_zero, List.getElem?_cons_succ, List.set_cons_zero, List.set_cons_succ, exists_eq_left', exists_eq_left, exists_and_left, exists_eq', and_assoc, Option.some.injEq, List.cons.injEq, D.ty.injEq, D.bl.injEq, D.int.injEq, D.str.injEq, D.tup.injEq, D.ref.injEq, and_true, true_and])
    have hk1 : 1 ≤ k := by
      rcases Nat.eq_zero_or_pos k with z | z
      · rw [h0 z] at hd
        cases hd
      · exact z
    refine ⟨h, k - 1, by rw [show ((k - 1 : Nat) : Int) = (k : Int) - 1 by omega], by omega, by omega, x.2.1, fun t st2 h2 h3 h4 => ?_⟩
    have : st2 p = some (.lst acc) := h4.1 p _ (hh.ne np) e
    exact h1 _ st2 ⟨t, rfl, h2, by omega⟩ (x.trans h4) this
  · obtain ⟨ts, e1, e2, e3⟩ := fm_trees (P := fun t => t.ok ∧ t.deep ≤ k) (fun d y h => h) fm
    refine ⟨_, rfl, .inr ⟨p, ys, rfl, e, ?_⟩⟩
    have el : ts.length = r.toNat := by rw [e2]; unfold rngL; simp
    obtain ⟨t, et, hok, hdp⟩ := mk_tree (x := s) (ts := ts) (n := k) (by rw [hr, el]; congr 1; omega) e3
    refine ⟨by rw [e1, sizeLine_eq]; simp; omega, ?_⟩
    have := hq t st' hok hdp x
    rw [et] at this
    rw [e1]
    exact this
end
theorem pure__law_tree {Γ : Gn} {n : Nat} {ds : List D} {st : Stt} {q : DQ} {ex : DX} (h : sp__law_treeN (n + 1) ds st q ex) : t__law_tree Γ (sp__law_treeN n) (fun x _ st => ex x st) { nx := fun _ st' => q .non st', rt := q } (dstart N__law_tree ds) st := by
  obtain ⟨h, k, rfl, hk, hk3, hh, hq⟩ := h
  show t__law_tree Γ _ _ _ [some (.ref h), some (.int k), none, none, none] st
  unfold t__law_tree
  simp only [sRet, sSeq, sNext, sIf, sDrop, sSet, sAsg, sPar, sPar3, sAug, sRaise, dAndV, dOrV, dNotV, dAnd, dOr, dNot, dB, dIf, dOp, dUn, dCB, dVar, dC, dNil, dCons, dTup, dLst, dChain, dCall, gNm, gTp, gsCons, gsNil, DL.gSub, nIsi, dBM, dBM0, dPart, dNoPart, dSl, dInW, dIxW, dNewK, dNewT, dRevL, dRevT, dDPop1, dItems, dLRg, iTupD, iLstD, iStrD, iEnD, iRng1D, iRng2D, oI2, oNeg, List.getElem?_cons_zero, List.getElem?_cons_succ, List.set_cons_zero, List.set_cons_succ, exists_eq_left', exists_eq_left, exists_and_left, exists_eq', and_assoc, Option.some.injEq, List.cons.injEq, D.ty.injEq, D.bl.injEq, D.int.injEq, D.str.injEq, D.tup.injEq, D.ref.injEq, and_true, true_and]
  refine t_eqI ?_
  cases e : decide ((k : Int) = 0) with
  | true =>
    have hk0 : k = 0 := by have := of_decide_eq_true e; omega
    rw [if_pos rfl]
    refine ⟨rfl, fun p np => i_slL put_same fun p2 np2 => ?_⟩
    have d1 := Dr.put (o := .lst ranksL) hh np
    have d2 := d1.new hh (o := .lst (cutL ranksL none (some 3))) (d1.none np2)
    refine ⟨h, p2, _, rfl, hh.ne (d1.none np2), put_same, by decide +revert, by decide, d2.2.1, fun x st' hx d => ?_⟩
    obtain ⟨s, rfl, hs⟩ := ranks3_mem hx
    refine ⟨_, rfl, rfl, _, _, rfl, _, _, rfl, rfl, ?_⟩
    exact tree_1 d.2.1 hs hk hk3 (fun _ => rfl) fun t st2 h1 h2 h3 => hq t st2 h1 h2 ((d2.trans d).trans h3)
  | false =>
    have hk0 : k ≠ 0 := by have := of_decide_eq_false e; omega
    rw [if_neg (by decide)]
    refine ⟨rfl, fun p np => ?_⟩
    have d1 := Dr.put (o := .lst ranksL) hh np
    refine ⟨h, p, _, rfl, hh.ne np, put_same, by decide +revert, by decide, d1.2.1, fun x st' hx d => ?_⟩
    obtain ⟨s, r, rfl, hs⟩ := ranks_mem hx
    refine ⟨_, rfl, rfl, _, _, rfl, _, _, rfl, rfl, ?_⟩
    exact tree_1 d.2.1 hs hk hk3 (fun z => absurd z hk0) fun t st2 h1 h2 h3 => hq t st2 h1 h2 ((d1.trans d).trans h3)
/-! ### chains, full trees -/
section
variable {Γ : Gn} {ex : DXE} {h : Addr} {N : DN} {chk : Stt → Prop}
theorem leaf_mem {x : D} (hx : x ∈ [D.str "a", .str "b", .str "c"]) : ∃ s, x = .str s ∧ RK.lookup s = some 0 := by
  simp only [List.mem_cons, List.not_mem_nil, or_false] at hx
  rcases hx with rfl | rfl | rfl
  · exact ⟨"a", rfl, by decide +kernel⟩
  · exact ⟨"b", rfl, by decide +kernel⟩
  · exact ⟨"c", rfl, by decide +kernel⟩
theorem one_mem {x : D} (hx : x ∈ [D.str "s", .str "t"]) : ∃ s, x = .str s ∧ RK.lookup s = some 1 := by
  simp only [List.mem_cons, List.not_mem_nil, or_false] at hx
  rcases hx with rfl | rfl
  · exact ⟨"s", rfl, by decide +kernel⟩
  · exact ⟨"t", rfl, by decide +kernel⟩
theorem two_mem {x : D} (hx : x ∈ [D.str "f", .str "g"]) : ∃ s, x = .str s ∧ RK.lookup s = some 2 := by
  simp only [List.mem_cons, List.not_mem_nil, or_false] at hx
  rcases hx with rfl | rfl
  · exact ⟨"f", rfl, by decide +kernel⟩
  · exact ⟨"g", rfl, by decide +kernel⟩
theorem chain_body {st : Stt} {k : D} {t : Tr} {o : D} (hh : HandOk st h) (hq : ∀ s st', RK.lookup s = some 1 → Dr h st st' → N.nx [some (.ref h), some k, some (Tr.a1 s t).d, some o] st') :
    b__law_chain_1 Γ ex N [some (.ref h), some k, some t.d, some o] st := by
  unfold b__law_chain_1
  simp only [sRet, sSeq, sNext, sIf, sDrop, sSet, sAsg, sPar, sPar3, sAug, sRaise, dAndV, dOrV, dNotV, dAnd, dOr, dNot, dB, dIf, dOp, dUn, dCB, dVar, dC, dNil, dCons, dTup, dLst, dChain, dCall, gNm, gTp, gsCons, gsNil, DL.gSub, nIsi, dBM, dBM0, dPart, dNoPart, dSl, dInW, dIxW, dNewK, dNewT, dRevL, dRevT, dDPop1, dItems, dLRg, iTupD, iLstD, iStrD, iEnD, iRng1D, iRng2D, oI2, oNeg, List.getElem?_cons_zero, List.getElem?_cons_succ, List.set_cons_zero, List.set_cons_succ, exists_eq_left', exists_eq_left, exists_and_left, exists_eq', and_assoc, Option.some.injEq, List.cons.injEq, D.ty.injEq, D.bl.injEq, D.int.injEq, D.str.injEq, D.tup.injEq, D.ref.injEq, and_true, true_and]
  refine ⟨by rw [sizeLine_eq]; simp, fun p np => ?_⟩
  have d1 := Dr.put (o := .lst [.str "s", .str "t"]) hh np
  refine ⟨h, p, _, rfl, hh.ne np, put_same, by simp, by simp, d1.2.1, fun x st' hx d => ?_⟩
  obtain ⟨s, rfl, hs⟩ := one_mem hx
  exact ⟨by rw [sizeLine_eq]; simp, hq s st' hs (d1.trans d)⟩
theorem chain_loop (hc : ∀ st, chk st) {k : D} : ∀ (ds : List D) (t : Tr) (o : Option D) (st : Stt), HandOk st h → t.ok → (∀ (t' : Tr) o st', t'.ok → t'.deep = t.deep + ds.length → t'.size = t.size + ds.length → Dr h st st' → N.nx [some (.ref h), some k, some t'.d, o] st') →
    runF chk (gNm 3) (b__law_chain_1 Γ ex) N ds [some (.ref h), some k, some t.d, o] st
  | [], t, o, st, hh, ht, hq => hq t o st ht rfl rfl (.refl hh)
  | d :: ds, t, o, st, hh, ht, hq => by
    refine chain_body (Γ := Γ) (ex := ex) hh fun s st' hs dr => ?_
    refine ⟨hc _, chain_loop hc ds (.a1 s t) _ st' dr.2.1 ⟨hs, ht⟩ fun t' o st2 h1 h2 h3 h4 => hq t' o st2 h1 ?_ ?_ (dr.trans h4)⟩
    · rw [h2]; simp only [Tr.deep, List.length_cons]; omega
    · rw [h3]; simp only [Tr.size, List.length_cons]; omega
theorem full_body {st : Stt} {k : D} {t : Tr} {o : D} (hh : HandOk st h) (hq : ∀ s st', RK.lookup s = some 2 → Dr h st st' → N.nx [some (.ref h), some k, some (Tr.a2 s t t).d, some o] st') :
    b__law_full_1 Γ ex N [some (.ref h), some k, some t.d, some o] st := by
  unfold b__law_full_1
  simp only [sRet, sSeq, sNext, sIf, sDrop, sSet, sAsg, sPar, sPar3, sAug, sRaise, dAndV, dOrV, dNotV, dAnd, dOr, dNot, dB, dIf, dOp, dUn, dCB, dVar, dC, dNil, dCons, dTup, dLst, dChain, dCall, gNm, gTp, gsCons, gsNil, DL.gSub, nIsi, dBM, dBM0, dPart, dNoPart, dSl, dInW, dIxW, dNewK, dNewT, dRevL, dRevT, dDPop1, dItems, dLRg, iTupD, iLstD, iStrD, iEnD, iRng1D, iRng2D, oI2, oNeg, List.getElem?_cons_zero, List.getElem?_cons_succ, List.set_cons_zero, List.set_cons_succ, exists_eq_left', exists_eq_left, exists_and_left, exists_eq', and_assoc, Option.some.injEq, List.cons.injEq, D.ty.injEq, D.bl.injEq, D.int.injEq, D.str.injEq, D.tup.injEq, D.ref.injEq, and_true, true_and]
  refine ⟨by rw [sizeLine_eq]; simp, fun p np => ?_⟩
  have d1 := Dr.put (o := .lst [.str "f", .str "g"]) hh np
  refine ⟨h, p, _, rfl, hh.ne np, put_same, by simp, by simp, d1.2.1, fun x st' hx d => ?_⟩
  obtain ⟨s, rfl, hs⟩ := two_mem hx
  exact ⟨by rw [sizeLine_eq]; simp, hq s st' hs (d1.trans d)⟩
theorem full_loop (hc : ∀ st, chk st) {k : D} : ∀ (ds : List D) (t : Tr) (o : Option D) (st : Stt), HandOk st h → t.ok → (∀ (t' : Tr) o st', t'.ok → t'.deep = t.deep + ds.length → t'.size + 1 = (t.size + 1) * 2 ^ ds.length → Dr h st st' → N.nx [some (.ref h), some k, some t'.d, o] st') →
    runF chk (gNm 3) (b__law_full_1 Γ ex) N ds [some (.ref h), some k, some t.d, o] st
  | [], t, o, st, hh, ht, hq => hq t o st ht rfl (by simp) (.refl hh)
  | d :: ds, t, o, st, hh, ht, hq => by
    refine full_body (Γ := Γ) (ex := ex) hh fun s st' hs dr => ?_
    refine ⟨hc _, full_loop hc ds (.a2 s t t) _ st' dr.2.1 ⟨hs, ht, ht⟩ fun t' o st2 h1 h2 h3 h4 => hq t' o st2 h1 ?_ ?_ (dr.trans h4)⟩
    · rw [h2]; simp only [Tr.deep, List.length_cons]; omega
    · rw [h3]; simp only [Tr.size, List.length_cons]
      rw [Nat.pow_succ, show 1 + t.size + t.size + 1 = (t.size + 1) * 2 by omega, Nat.mul_assoc, Nat.mul_comm 2]
end
theorem pure__law_chain {Γ : Gn} {ds : List D} {st : Stt} {q : DQ} {ex : DX} (h : sp__law_chain Γ ds st q ex) : t__law_chain Γ (fun x _ st => ex x st) { nx := fun _ st' => q .non st', rt := q } (dstart N__law_chain ds) st := by
  obtain ⟨h, k, rfl, h1, h41, hh, hq⟩ := h
  show t__law_chain Γ _ _ [some (.ref h), some (.int k), none, none] st
  unfold t__law_chain
  simp only [sRet, sSeq, sNext, sIf, sDrop, sSet, sAsg, sPar, sPar3, sAug, sRaise, dAndV, dOrV, dNotV, dAnd, dOr, dNot, dB, dIf, dOp, dUn, dCB, dVar, dC, dNil, dCons, dTup, dLst, dChain, dCall, gNm, gTp, gsCons, gsNil, DL.gSub, nIsi, dBM, dBM0, dPart, dNoPart, dSl, dInW, dIxW, dNewK, dNewT, dRevL, dRevT, dDPop1, dItems, dLRg, iTupD, iLstD, iStrD, iEnD, iRng1D, iRng2D, oI2, oNeg, List.getElem?_cons_zero, List.getElem?_cons_succ, List.set_cons_zero, List.set_cons_succ, exists_eq_left', exists_eq_left, exists_and_left, exists_eq', and_assoc, Option.some.injEq, List.cons.injEq, D.ty.injEq, D.bl.injEq, D.int.injEq, D.str.injEq, D.tup.injEq, D.ref.injEq, and_true, true_and]
  refine ⟨by rw [sizeLine_eq]; simp, fun p np => ?_⟩
  have d1 := Dr.put (o := .lst [.str "a", .str "b", .str "c"]) hh np
  refine ⟨h, p, _, rfl, hh.ne np, put_same, by simp, by simp, d1.2.1, fun x st' hx d => ?_⟩
  obtain ⟨s, rfl, hs⟩ := leaf_mem hx
  refine ⟨by rw [sizeLine_eq]; simp, ?_⟩
  unfold u__law_chain_1
  simp only [sSeq, sFor]
  simp only [sRet, sSeq, sNext, sIf, sDrop, sSet, sAsg, sPar, sPar3, sAug, sRaise, dAndV, dOrV, dNotV, dAnd, dOr, dNot, dB, dIf, dOp, dUn, dCB, dVar, dC, dNil, dCons, dTup, dLst, dChain, dCall, gNm, gTp, gsCons, gsNil, DL.gSub, nIsi, dBM, dBM0, dPart, dNoPart, dSl, dInW, dIxW, dNewK, dNewT, dRevL, dRevT, dDPop1, dItems, dLRg, iTupD, iLstD, iStrD, iEnD, iRng1D, iRng2D, oI2, oNeg, List.getElem?_cons_zero, List.getElem?_cons_succ, List.set_cons_zero, List.set_cons_succ, exists_eq_left', exists_eq_left, exists_and_left, exists_eq', and_assoc, Option.some.injEq, List.cons.injEq, D.ty.injEq, D.bl.injEq, D.int.injEq, D.str.injEq, D.tup.injEq, D.ref.injEq, and_true, true_and]
  refine ⟨by omega, by omega, ?_⟩
  refine chain_loop (Γ := Γ) (fun _ => by first | trivial | rfl) _ (.a0 s) none st' d.2.1 hs fun t o st2 ht h2 h3 h4 => ?_
  unfold u__law_chain_2
  simp only [sRet, sSeq, sNext, sIf, sDrop, sSet, sAsg, sPar, sPar3, sAug, sRaise, dAndV, dOrV, dNotV, dAnd, dOr, dNot, dB, dIf, dOp, dUn, dCB, dVar, dC, dNil, dCons, dTup, dLst, dChain, dCall, gNm, gTp, gsCons, gsNil, DL.gSub, nIsi, dBM, dBM0, dPart, dNoPart, dSl, dInW, dIxW, dNewK, dNewT, dRevL, dRevT, dDPop1, dItems, dLRg, iTupD, iLstD, iStrD, iEnD, iRng1D, iRng2D, oI2, oNeg, List.getElem?_cons_zero, List.getElem?_cons_succ, List.set_cons_zero, List.set_cons_succ, exists_eq_left', exists_eq_left, exists_and_left, exists_eq', and_assoc, Option.some.injEq, List.cons.injEq, D.ty.injEq, D.bl.injEq, D.int.injEq, D.str.injEq, D.tup.injEq, D.ref.injEq, and_true, true_and]
  have el : (rngL 0 ((k : Int) - 1).toNat).length = k - 1 := by unfold rngL; simp
  rw [el] at h2 h3
  simp only [Tr.deep, Tr.size] at h2 h3
  exact hq t st2 ht (by omega) (by omega) ((d1.trans d).trans h4)
theorem pure__law_full {Γ : Gn} {ds : List D} {st : Stt} {q : DQ} {ex : DX} (h : sp__law_full Γ ds st q ex) : t__law_full Γ (fun x _ st => ex x st) { nx := fun _ st' => q .non st', rt := q } (dstart N__law_full ds) st := by
  obtain ⟨h, k, rfl, h1, h41, hh, hq⟩ := h
  show t__law_full Γ _ _ [some (.ref h), some (.int k), none, none] st
  unfold t__law_full
  simp only [sRet, sSeq, sNext, sIf, sDrop, sSet, sAsg, sPar, sPar3, sAug, sRaise, dAndV, dOrV, dNotV, dAnd, dOr, dNot, dB, dIf, dOp, dUn, dCB, dVar, dC, dNil, dCons, dTup, dLst, dChain, dCall, gNm, gTp, gsCons, gsNil, DL.gSub, nIsi, dBM, dBM0, dPart, dNoPart, dSl, dInW, dIxW, dNewK, dNewT, dRevL, dRevT, dDPop1, dItems, dLRg, iTupD, iLstD, iStrD, iEnD, iRng1D, iRng2D, oI2, oNeg, List.getElem?_cons_zero, List.getElem?_cons_succ, List.set_cons_zero, List.set_cons_succ, exists_eq_left', exists_eq_left, exists_and_left, exists_eq', and_assoc, Option.some.injEq, List.cons.injEq, D.ty.injEq, D.bl.injEq, D.int.injEq, D.str.injEq, D.tup.injEq, D.ref.injEq, and_true, true_and]
  refine ⟨by rw [sizeLine_eq]; simp, fun p np => ?_⟩
  have d1 := Dr.put (o := .lst [.str "a", .str "b", .str "c"]) hh np
  refine ⟨h, p, _, rfl, hh.ne np, put_same, by simp, by simp, d1.2.1, fun x st' hx d => ?_⟩
  obtain ⟨s, rfl, hs⟩ := leaf_mem hx
  refine ⟨by rw [sizeLine_eq]; simp, ?_⟩
  unfold u__law_full_1
  simp only [sSeq, sFor]
  simp only [sRet, sSeq, sNext, sIf, sDrop, sSet, sAsg, sPar, sPar3, sAug, sRaise, dAndV, dOrV, dNotV, dAnd, dOr, dNot, dB, dIf, dOp, dUn, dCB, dVar, dC, dNil, dCons, dTup, dLst, dChain, dCall, gNm, gTp, gsCons, gsNil, DL.gSub, nIsi, dBM, dBM0, dPart, dNoPart, dSl, dInW, dIxW, dNewK, dNewT, dRevL, dRevT, dDPop1, dItems, dLRg, iTupD, iLstD, iStrD, iEnD, iRng1D, iRng2D, oI2, oNeg, List.getElem?_cons_zero, List.getElem?_cons_succ, List.set_cons_zero, List.set_cons_succ, exists_eq_left', exists_eq_left, exists_and_left, exists_eq', and_assoc, Option.some.injEq, List.cons.injEq, D.ty.injEq, D.bl.injEq, D.int.injEq, D.str.injEq, D.tup.injEq, D.ref.injEq, and_true, true_and]
  refine ⟨by omega, by omega, ?_⟩
  refine full_loop (Γ := Γ) (fun _ => by first | trivial | rfl) _ (.a0 s) none st' d.2.1 hs fun t o st2 ht h2 h3 h4 => ?_
  unfold u__law_full_2
  simp only [sRet, sSeq, sNext, sIf, sDrop, sSet, sAsg, sPar, sPar3, sAug, sRaise, dAndV, dOrV, dNotV, dAnd, dOr, dNot, dB, dIf, dOp, dUn, dCB, dVar, dC, dNil, dCons, dTup, dLst, dChain, dCall, gNm, gTp, gsCons, gsNil, DL.gSub, nIsi, dBM, dBM0, dPart, dNoPart, dSl, dInW, dIxW, dNewK, dNewT, dRevL, dRevT, dDPop1, dItems, dLRg, iTupD, iLstD, iStrD, iEnD, iRng1D, iRng2D, oI2, oNeg, List.getElem?_cons_zero, List.getElem?_cons_succ, List.set_cons_zero, List.set_cons_succ, exists_eq_left', exists_eq_left, exists_and_left, exists_eq', and_assoc, Option.some.injEq, List.cons.injEq, D.ty.injEq, D.bl.injEq, D.int.injEq, D.str.injEq, D.tup.injEq, D.ref.injEq, and_true, true_and]
  have el : (rngL 0 ((k : Int) - 1).toNat).length = k - 1 := by unfold rngL; simp
  rw [el] at h2 h3
  simp only [Tr.deep, Tr.size] at h2 h3
  refine hq t st2 ht (by omega) ?_ ((d1.trans d).trans h4)
  rw [h3]
  obtain ⟨j, rfl⟩ : ∃ j, k = j + 1 := ⟨k - 1, by omega⟩
  rw [Nat.pow_succ, Nat.mul_comm, Nat.add_sub_cancel]
end K73
/-! K14: _law_sort. -/
namespace K73
open PySem PySem.Spec L2 DL
theorem fm_ints {R : D → Option D → Prop} {P : Int → Prop} (hR : ∀ d y, R d y → ∃ n : Int, y = some (.int n) ∧ P n) {ds ys : List D} (h : Fm R ds ys) : ∃ ns : List Int, ys = nI ns ∧ ns.length = ds.length ∧ ∀ n ∈ ns, P n := by
  induction h with
  | nil => exact ⟨[], rfl, rfl, fun t ht => by cases ht⟩
  | yes r _ ih =>
    obtain ⟨t, e, hp⟩ := hR _ _ r
    cases e
    obtain ⟨ts, e1, e2, e3⟩ := ih
    exact ⟨t :: ts, by rw [e1] <;> rfl, by simp [e2], fun u hu => (List.mem_cons.mp hu).elim (fun z => z ▸ hp) (e3 u)⟩
  | no r _ _ => obtain ⟨t, e, _⟩ := hR _ _ r; cases e
theorem fm_sub {R : D → Option D → Prop} (hR : ∀ d y, R d y → y = some d ∨ y = none) {ds ys : List D} (h : Fm R ds ys) : ys.Sublist ds := by
  induction h with
  | nil => exact .slnil
  | @yes d y ds ys r _ ih =>
    rcases hR _ _ r with e | e
    · cases e; exact ih.cons_cons d
    · cases e
  | no r _ ih => exact ih.cons _
theorem seqIx {i : Nat} {n : Nat} (h : i < n) : seqIndex? (i : Int) n = some i := by
  have : atI (List.range n) (i : Int) = (List.range n)[i]? := atI_nn _ _
  unfold seqIndex?
  have h1 : ¬ ((i : Int) < 0) := by omega
  simp [h1]
  try omega
theorem eraseIdx_map' {α β : Type} (f : α → β) : ∀ (l : List α) (j : Nat), (l.map f).eraseIdx j = (l.eraseIdx j).map f
  | [], _ => rfl
  | _ :: _, 0 => rfl
  | a :: l, j + 1 => by
    show f a :: (l.map f).eraseIdx j = f a :: (l.eraseIdx j).map f
    rw [eraseIdx_map' f l j]
theorem erase_perm {α : Type} : ∀ {l : List α} {j : Nat} {a : α}, l[j]? = some a → (a :: l.eraseIdx j).Perm l
  | [], _, _, h => by simp at h
  | b :: l, 0, a, h => by simp at h; subst h; exact .refl _
  | b :: l, j + 1, a, h => by
    have ih := erase_perm (l := l) (j := j) (a := a) (by simpa using h)
    exact (List.Perm.swap b a _).trans (ih.cons b)
section
variable {Γ : Gn} {ex : DXE} {h : Addr} {q : DQ} {nx : DEnv → Stt → Prop}
def rkD (p : Str × Int) : D := .tup [.str p.1, .int p.2]
/-- the rows that are made, the signs that are left -/
structure Mk (st0 st : Stt) (h ru lf : Addr) (m : Nat) (K : List (Str × List Int)) (R : List (Str × Int)) : Prop where
  dr : Dr h st0 st
  nru : st0 ru = none
  nlf : st0 lf = none
  ne : ru ≠ lf
  eru : st ru = some (.dK (K.map fun p => (Sum.inr p.1, .tup (nI p.2))))
  elf : st lf = some (.lst (R.map rkD))
  rk : ∀ p ∈ R, RK.lookup p.1 = some p.2
  rows : ∀ p ∈ K, p.2.length = m ^ K73.rk p.1 ∧ ∀ n ∈ p.2, 0 ≤ n ∧ n < (m : Int)
  keys : (K.map (·.1) ++ R.map (·.1)).Perm SGs
theorem putD_new {κ : Type} [DecidableEq κ] {kvs : List (κ × D)} {k : κ} {d : D} (h : k ∉ kvs.map (·.1)) : putD kvs k d = kvs ++ [(k, d)] := by
  have hn : valD kvs k = none := by
    cases e : valD kvs k with
    | none => rfl
    | some v => exact absurd (List.mem_map.mpr ⟨_, valD_mem e, rfl⟩) h
  unfold putD
  rw [hn, if_neg (by simp)]
theorem sort_turn {st0 st : Stt} {ru lf : Addr} {m : Nat} {K : List (Str × List Int)} {R : List (Str × Int)} {o4 o5 o6 o7 : Option D} {rt : DQ} {bk ct M : DEnv → Stt → Prop} (hh : HandOk st0 h) (h1 : 1 ≤ m) (h5 : m ≤ 5) (mk : Mk st0 st h ru lf m K R) (hR : R ≠ [])
    (hM : ∀ st' K' R' o4 o5, Mk st0 st' h ru lf m K' R' → R'.length + 1 = R.length → M [some (.ref h), some (.int m), some (.ref ru), some (.ref lf), o4, o5, o6, o7] st') :
    b__law_sort_1 Γ ex { nx := M, rt := rt, bk := bk, ct := ct } [some (.ref h), some (.int m), some (.ref ru), some (.ref lf), o4, o5, o6, o7] st := by
  obtain ⟨dr, nru, nlf, ne, eru, elf, hrk, rows, keys⟩ := mk
  have hrl : R.length ≤ 8 := by
    have := keys.length_eq
    rw [List.length_append, List.length_map, List.length_map] at this
    have e8 : SGs.length = 8 := rfl
    omega
  have hru : ru ≠ h := hh.ne nru
  have hlf : lf ≠ h := hh.ne nlf
  unfold b__law_sort_1
  simp only [sRet, sSeq, sNext, sIf, sDrop, sSet, sAsg, sPar, sPar3, sAug, sRaise, dAndV, dOrV, dNotV, dAnd, dOr, dNot, dB, dIf, dOp, dUn, dCB, dVar, dC, dNil, dCons, dTup, dLst, dChain, dCall, gNm, gTp, gsCons, gsNil, DL.gSub, nIsi, dBM, dBM0, dPart, dNoPart, dSl, dInW, dIxW, dNewK, dNewT, dRevL, dRevT, dDPop1, dItems, dLRg, iTupD, iLstD, iStrD, iEnD, iRng1D, iRng2D, oI2, oNeg, List.getElem?_cons_zero, List.getElem?_cons_succ, List.set_cons_zero, List.set_cons_succ, exists_eq_left', exists_eq_left, exists_and_left, exists_eq', and_assoc, Option.some.injEq, List.cons.injEq, D.ty.injEq, D.bl.injEq, D.int.injEq, D.str.injEq, D.tup.injEq, D.ref.injEq, and_true, true_and]
  refine ⟨i_isL elf, i_lenL elf ⟨h, _, rfl, ?_, by simp; omega, dr.2.1, fun r st1 r0 r1 d1 => ?_⟩⟩
  · have := List.length_pos_iff.mpr hR
    simp
    omega
  rw [List.length_map] at r1
  obtain ⟨j, rfl⟩ : ∃ j : Nat, r = j := ⟨r.toNat, by omega⟩
  have hj : j < R.length := by omega
  obtain ⟨⟨x, rr⟩, ex⟩ : ∃ p, R[j]? = some p := ⟨R[j], List.getElem?_eq_getElem hj⟩
  have hxm : (x, rr) ∈ R := List.mem_of_getElem? ex
  have hxr := hrk _ hxm
  simp only at hxr
  obtain ⟨hx, hrx, rr0, rr3⟩ := rk_of hxr
  have elf1 : st1 lf = some (.lst (R.map rkD)) := d1.1 lf _ hlf elf
  refine ⟨lf, R.map rkD, j, j, rkD (x, rr), rfl, rfl, elf1, by omega, by omega, seqIx (by rw [List.length_map]; exact hj), by rw [List.getElem?_map, ex] <;> rfl, ?_⟩
  refine ⟨_, rfl, rfl, _, _, rfl, _, _, rfl, rfl, ?_⟩
  have er : ((R.map rkD).eraseIdx j) = (R.eraseIdx j).map rkD := eraseIdx_map' _ _ _
  rw [er]
  have d2 : Dr h st0 (put st1 lf (.lst ((R.eraseIdx j).map rkD))) := (dr.trans d1).new hh nlf
  have eru2 : put st1 lf (.lst ((R.eraseIdx j).map rkD)) ru = some (.dK (K.map fun p => (Sum.inr p.1, .tup (nI p.2)))) := by rw [put_ne ne]; exact d1.1 ru _ hru eru
  have elf2 : put st1 lf (.lst ((R.eraseIdx j).map rkD)) lf = some (.lst ((R.eraseIdx j).map rkD)) := put_same
  generalize put st1 lf (.lst ((R.eraseIdx j).map rkD)) = st2 at d2 eru2 elf2 ⊢
  unfold u__law_sort_1_1
  simp only [sRet, sSeq, sNext, sIf, sDrop, sSet, sAsg, sPar, sPar3, sAug, sRaise, dAndV, dOrV, dNotV, dAnd, dOr, dNot, dB, dIf, dOp, dUn, dCB, dVar, dC, dNil, dCons, dTup, dLst, dChain, dCall, gNm, gTp, gsCons, gsNil, DL.gSub, nIsi, dBM, dBM0, dPart, dNoPart, dSl, dInW, dIxW, dNewK, dNewT, dRevL, dRevT, dDPop1, dItems, dLRg, iTupD, iLstD, iStrD, iEnD, iRng1D, iRng2D, oI2, oNeg, List.getElem?_cons_zero, List.getElem?_cons_succ, List.set_cons_zero, List.set_cons_succ, exists_eq_left', exists_eq_left, exists_and_left, exists_eq', and_assoc, Option.some.injEq, List.cons.injEq, D.ty.injEq, D.bl.injEq, D.int.injEq, D.str.injEq, D.tup.injEq, D.ref.injEq, and_true, true_and]
  simp only [dLc]
  simp only [sRet, sSeq, sNext, sIf, sDrop, sSet, sAsg, sPar, sPar3, sAug, sRaise, dAndV, dOrV, dNotV, dAnd, dOr, dNot, dB, dIf, dOp, dUn, dCB, dVar, dC, dNil, dCons, dTup, dLst, dChain, dCall, gNm, gTp, gsCons, gsNil, DL.gSub, nIsi, dBM, dBM0, dPart, dNoPart, dSl, dInW, dIxW, dNewK, dNewT, dRevL, dRevT, dDPop1, dItems, dLRg, iTupD, iLstD, iStrD, iEnD, iRng1D, iRng2D, oI2, oNeg, List.getElem?_cons_zero, List.getElem?_cons_succ, List.set_cons_zero, List.set_cons_succ, exists_eq_left', exists_eq_left, exists_and_left, exists_eq', and_assoc, Option.some.injEq, List.cons.injEq, D.ty.injEq, D.bl.injEq, D.int.injEq, D.str.injEq, D.tup.injEq, D.ref.injEq, and_true, true_and]
  have hm25 : m * m ≤ 25 := Nat.mul_le_mul h5 h5
  refine ⟨mul_l (by omega) (by omega), mul_l (by omega) (by omega), mul_r (by omega) (by omega), by rw [sizeLine_eq]; simp, fun p np => ?_⟩
  have d3 := d2.new hh (o := .lst [D.int 1, .int m, .int ((m : Int) * m), .int ((m : Int) * m * m)]) (d2.none np)
  have ep : ∃ l, l ≤ 1000 ∧ l = m ^ K73.rk x ∧ [D.int 1, .int m, .int ((m : Int) * m), .int ((m : Int) * m * m)][K73.rk x]? = some (.int (l : Nat)) := by
    have hb : ∀ i, i ≤ 3 → m ^ i ≤ 1000 := fun i hi => calc
      m ^ i ≤ 5 ^ i := Nat.pow_le_pow_left h5 _
      _ ≤ 5 ^ 3 := Nat.pow_le_pow_right (by decide) hi
      _ ≤ 1000 := by decide
    have h3 : K73.rk x ≤ 3 := by omega
    refine ⟨m ^ K73.rk x, hb _ h3, rfl, ?_⟩
    generalize K73.rk x = i at h3
    match i, h3 with
    | 0, _ => rfl
    | 1, _ => simp
    | 2, _ => simp [Nat.pow_succ]
    | 3, _ => simp [Nat.pow_succ]
  obtain ⟨l, hl1000, hl, el⟩ := ep
  rw [← hrx]
  refine i_ixL put_same el ⟨_, rfl, by omega, by omega, ?_⟩
  rw [Int.toNat_natCast]
  have eru3 : put st2 p (.lst [D.int 1, .int m, .int ((m : Int) * m), .int ((m : Int) * m * m)]) ru = some (.dK (K.map fun p => (Sum.inr p.1, .tup (nI p.2)))) := by rw [put_ne (neq_of eru2 np)]; exact eru2
  have elf3 : put st2 p (.lst [D.int 1, .int m, .int ((m : Int) * m), .int ((m : Int) * m * m)]) lf = some (.lst ((R.eraseIdx j).map rkD)) := by rw [put_ne (neq_of elf2 np)]; exact elf2
  generalize put st2 p (.lst [D.int 1, .int m, .int ((m : Int) * m), .int ((m : Int) * m * m)]) = st3 at d3 eru3 elf3 ⊢
  refine lcGc (Dr h st3) (fun d y => ∃ n : Int, y = some (.int n) ∧ 0 ≤ n ∧ n < (m : Int)) (.refl d3.2.1) (fun p' st' acc np' x' => x'.new d3.2.1 np') (by unfold rngL; rw [sizeLine_eq]; simp; omega) (fun d hd p' st' acc np' x' e K1 K0 h1' _ => ?_) fun ys p' st' fm np' x' e => ?_
  · (simp only [CT.dg, dwipe]; simp only [sRet, sSeq, sNext, sIf, sDrop, sSet, sAsg, sPar, sPar3, sAug, sRaise, dAndV, dOrV, dNotV, dAnd, dOr, dNot, dB, dIf, dOp, dUn, dCB, dVar, dC, dNil, dCons, dTup, dLst, dChain, dCall, gNm, gTp, gsCons, gsNil, DL.gSub, nIsi, dBM, dBM0, dPart, dNoPart, dSl, dInW, dIxW, dNewK, dNewT, dRevL, dRevT, dDPop1, dItems, dLRg, iTupD, iLstD, iStrD, iEnD, iRng1D, iRng2D, oI2, oNeg, List.getElem?_cons_zero, List.getElem?_cons_succ, List.set_cons_zero, List.set_cons_succ, exists_eq_left', exists_eq_left, exists_and_left, exists_eq', and_assoc, Option.some.injEq, List.cons.injEq, D.ty.injEq, D.bl.injEq, D.int.injEq, D.str.injEq, D.tup.injEq, D.ref.injEq, and_true, true_and])
    refine ⟨h, _, rfl, by omega, by omega, x'.2.1, fun r st4 r0 r1 d4 => h1' _ st4 ⟨r, rfl, r0, r1⟩ (x'.trans d4) (d4.1 p' _ (d3.2.1.ne np') e)⟩
  · obtain ⟨ns, e1, e2, e3⟩ := fm_ints (P := fun n => 0 ≤ n ∧ n < (m : Int)) (fun d y h => h) fm
    have eru4 := x'.1 ru _ hru eru3
    have elf4 := x'.1 lf _ hlf elf3
    have hKl : K.length ≤ 8 := by
      have := keys.length_eq
      rw [List.length_append, List.length_map, List.length_map] at this
      have e8 : SGs.length = 8 := rfl
      omega
    have hxK : x ∉ K.map (·.1) := fun hm => by
      have nd := keys.nodup_iff.mpr sgs_nodup
      rw [List.nodup_append] at nd
      exact nd.2.2 x hm x (List.mem_map.mpr ⟨_, hxm, rfl⟩) rfl
    have hxK2 : (Sum.inr x : Key) ∉ (K.map fun p => ((Sum.inr p.1 : Key), D.tup (nI p.2))).map (·.1) := fun hm => by
      rw [List.map_map] at hm
      obtain ⟨p, hp, e⟩ := List.mem_map.mp hm
      have e : (Sum.inr p.1 : Key) = Sum.inr x := e
      injection e with e
      exact hxK (List.mem_map.mpr ⟨p, hp, e⟩)
    refine ⟨_, rfl, .inr ⟨p', ys, rfl, e, i_setK eru4 rfl (by rw [sizeLine_eq, List.length_map]; omega) ?_⟩⟩
    rw [putD_new hxK2, e1]
    refine hM _ (K ++ [(x, ns)]) (R.eraseIdx j) _ _ ⟨(d3.trans x').new hh nru, nru, nlf, ne, by rw [put_same, List.map_append] <;> rfl, by rw [put_ne ne.symm]; exact elf4, fun p hp => hrk p (List.mem_of_mem_eraseIdx hp), fun p hp => ?_, ?_⟩ ?_
    · rcases List.mem_append.mp hp with hp | hp
      · exact rows p hp
      · rw [List.mem_singleton.mp hp]
        refine ⟨?_, e3⟩
        rw [e2]
        unfold rngL
        simp
        exact hl
    · refine List.Perm.trans ?_ keys
      rw [List.map_append, List.append_assoc]
      refine List.Perm.append_left _ ?_
      have := (erase_perm ex).map (·.1)
      exact this
    · rw [List.length_eraseIdx, if_pos hj]
      omega
end
theorem pure__law_sort {Γ : Gn} {ds : List D} {st : Stt} {q : DQ} {ex : DX} (h : sp__law_sort Γ ds st q ex) : t__law_sort Γ (fun x _ st => ex x st) { nx := fun _ st' => q .non st', rt := q } (dstart N__law_sort ds) st := by
  obtain ⟨h, rfl, hh, hq⟩ := h
  show t__law_sort Γ _ _ [some (.ref h), none, none, none, none, none, none, none] st
  unfold t__law_sort
  simp only [sRet, sSeq, sNext, sIf, sDrop, sSet, sAsg, sPar, sPar3, sAug, sRaise, dAndV, dOrV, dNotV, dAnd, dOr, dNot, dB, dIf, dOp, dUn, dCB, dVar, dC, dNil, dCons, dTup, dLst, dChain, dCall, gNm, gTp, gsCons, gsNil, DL.gSub, nIsi, dBM, dBM0, dPart, dNoPart, dSl, dInW, dIxW, dNewK, dNewT, dRevL, dRevT, dDPop1, dItems, dLRg, iTupD, iLstD, iStrD, iEnD, iRng1D, iRng2D, oI2, oNeg, List.getElem?_cons_zero, List.getElem?_cons_succ, List.set_cons_zero, List.set_cons_succ, exists_eq_left', exists_eq_left, exists_and_left, exists_eq', and_assoc, Option.some.injEq, List.cons.injEq, D.ty.injEq, D.bl.injEq, D.int.injEq, D.str.injEq, D.tup.injEq, D.ref.injEq, and_true, true_and]
  refine ⟨h, 5, rfl, by decide, by decide, hh, fun r st1 r0 r5 d1 => ?_⟩
  obtain ⟨m, hm⟩ : ∃ m : Nat, 1 + r = (m : Int) := ⟨(1 + r).toNat, by omega⟩
  show ∀ p, st1 p = none → _
  intro ru nru1
  have nru := d1.none nru1
  have d2 := d1.new hh (o := .dK []) nru
  refine ⟨rfl, fun lf nlf1 => ⟨by rw [sizeLine_eq]; simp, ?_⟩⟩
  have nlf := d2.none nlf1
  have ne : ru ≠ lf := neq_of put_same nlf1
  have d3 := d2.new hh (o := .lst ranksL) nlf
  refine ⟨rfl, ?_⟩
  have eru : put (put st1 ru (.dK [])) lf (.lst ranksL) ru = some (.dK []) := by rw [put_ne ne]; exact put_same
  have elf : put (put st1 ru (.dK [])) lf (.lst ranksL) lf = some (.lst ranksL) := put_same
  generalize put (put st1 ru (.dK [])) lf (.lst ranksL) = st3 at d3 eru elf ⊢
  rw [hm]
  unfold u__law_sort_1
  simp only [sSeq, sWhile]
  obtain ⟨W, hW⟩ : ∃ W : Nat → DEnv → Stt → Prop, W = fun k δ st' => ∃ K R o4 o5, R.length = k ∧ Mk st st' h ru lf m K R ∧ δ = [some (.ref h), some (.int (m : Nat)), some (.ref ru), some (.ref lf), o4, o5, none, none] := ⟨_, rfl⟩
  refine ⟨W, ⟨8, ?_⟩, ?_⟩
  · rw [hW]
    refine ⟨[], RK, none, none, rfl, ⟨d3, nru, nlf, ne, eru, elf, ?_, (fun p hp => nomatch hp), ?_⟩, rfl⟩
    · have key : ∀ p ∈ RK, RK.lookup p.1 = some p.2 := by decide +kernel
      exact key
    · exact List.Perm.refl _
  intro k δ st4 hw
  rw [hW] at hw
  obtain ⟨K, R, o4, o5, hk, mk, rfl⟩ := hw
  simp only [sRet, sSeq, sNext, sIf, sDrop, sSet, sAsg, sPar, sPar3, sAug, sRaise, dAndV, dOrV, dNotV, dAnd, dOr, dNot, dB, dIf, dOp, dUn, dCB, dVar, dC, dNil, dCons, dTup, dLst, dChain, dCall, gNm, gTp, gsCons, gsNil, DL.gSub, nIsi, dBM, dBM0, dPart, dNoPart, dSl, dInW, dIxW, dNewK, dNewT, dRevL, dRevT, dDPop1, dItems, dLRg, iTupD, iLstD, iStrD, iEnD, iRng1D, iRng2D, oI2, oNeg, List.getElem?_cons_zero, List.getElem?_cons_succ, List.set_cons_zero, List.set_cons_succ, exists_eq_left', exists_eq_left, exists_and_left, exists_eq', and_assoc, Option.some.injEq, List.cons.injEq, D.ty.injEq, D.bl.injEq, D.int.injEq, D.str.injEq, D.tup.injEq, D.ref.injEq, and_true, true_and]
  refine i_lenL mk.elf (t_gt ?_)
  cases R with
  | cons p R =>
    rw [if_pos (by simp)]
    refine ⟨fun δ' st' => ∃ k' < k, W k' δ' st', fun _ _ ⟨m', h1, h2⟩ => ⟨m', h1, h2⟩, ?_⟩
    refine sort_turn (Γ := Γ) hh (by omega) (by omega) mk (by simp) fun st' K' R' o4 o5 mk' hl => ⟨R'.length, by omega, ?_⟩
    rw [hW]
    exact ⟨K', R', o4, o5, rfl, mk', rfl⟩
  | nil =>
    rw [if_neg (by simp)]
    obtain ⟨dr, _, _, _, eru, _, _, rows, keys⟩ := mk
    unfold u__law_sort_2
    simp only [sRet, sSeq, sNext, sIf, sDrop, sSet, sAsg, sPar, sPar3, sAug, sRaise, dAndV, dOrV, dNotV, dAnd, dOr, dNot, dB, dIf, dOp, dUn, dCB, dVar, dC, dNil, dCons, dTup, dLst, dChain, dCall, gNm, gTp, gsCons, gsNil, DL.gSub, nIsi, dBM, dBM0, dPart, dNoPart, dSl, dInW, dIxW, dNewK, dNewT, dRevL, dRevT, dDPop1, dItems, dLRg, iTupD, iLstD, iStrD, iEnD, iRng1D, iRng2D, oI2, oNeg, List.getElem?_cons_zero, List.getElem?_cons_succ, List.set_cons_zero, List.set_cons_succ, exists_eq_left', exists_eq_left, exists_and_left, exists_eq', and_assoc, Option.some.injEq, List.cons.injEq, D.ty.injEq, D.bl.injEq, D.int.injEq, D.str.injEq, D.tup.injEq, D.ref.injEq, and_true, true_and]
    simp only [dLc]
    simp only [sRet, sSeq, sNext, sIf, sDrop, sSet, sAsg, sPar, sPar3, sAug, sRaise, dAndV, dOrV, dNotV, dAnd, dOr, dNot, dB, dIf, dOp, dUn, dCB, dVar, dC, dNil, dCons, dTup, dLst, dChain, dCall, gNm, gTp, gsCons, gsNil, DL.gSub, nIsi, dBM, dBM0, dPart, dNoPart, dSl, dInW, dIxW, dNewK, dNewT, dRevL, dRevT, dDPop1, dItems, dLRg, iTupD, iLstD, iStrD, iEnD, iRng1D, iRng2D, oI2, oNeg, List.getElem?_cons_zero, List.getElem?_cons_succ, List.set_cons_zero, List.set_cons_succ, exists_eq_left', exists_eq_left, exists_and_left, exists_eq', and_assoc, Option.some.injEq, List.cons.injEq, D.ty.injEq, D.bl.injEq, D.int.injEq, D.str.injEq, D.tup.injEq, D.ref.injEq, and_true, true_and]
    refine ⟨by omega, by omega, ?_⟩
    rw [Int.toNat_natCast]
    refine lcGc (Dr h st4) (fun d y => y = some d ∨ y = none) (.refl dr.2.1) (fun p' st' acc np' x' => x'.new dr.2.1 np') (by unfold rngL; rw [sizeLine_eq]; simp; omega) (fun d hd p' st' acc np' x' e K1 K0 h1' h0' => ?_) fun ys p' st' fm np' x' e => ?_
    · (simp only [CT.dg, dwipe]; simp only [sRet, sSeq, sNext, sIf, sDrop, sSet, sAsg, sPar, sPar3, sAug, sRaise, dAndV, dOrV, dNotV, dAnd, dOr, dNot, dB, dIf, dOp, dUn, dCB, dVar, dC, dNil, dCons, dTup, dLst, dChain, dCall, gNm, gTp, gsCons, gsNil, DL.gSub, nIsi, dBM, dBM0, dPart, dNoPart, dSl, dInW, dIxW, dNewK, dNewT, dRevL, dRevT, dDPop1, dItems, dLRg, iTupD, iLstD, iStrD, iEnD, iRng1D, iRng2D, oI2, oNeg, List.getElem?_cons_zero, List.getElem?_cons_succ, List.set_cons_zero, List.set_cons_succ, exists_eq_left', exists_eq_left, exists_and_left, exists_eq', and_assoc, Option.some.injEq, List.cons.injEq, D.ty.injEq, D.bl.injEq, D.int.injEq, D.str.injEq, D.tup.injEq, D.ref.injEq, and_true, true_and])
      refine ⟨h, 2, rfl, by decide, by decide, x'.2.1, fun r st5 _ _ d5 => t_eqI ?_⟩
      have e5 := d5.1 p' _ (dr.2.1.ne np') e
      cases decide (r = 0) with
      | true => rw [if_pos rfl]; exact h1' _ st5 (.inl rfl) (x'.trans d5) e5
      | false => rw [if_neg (by decide)]; exact h0' st5 (.inr rfl) (x'.trans d5) e5
    · have hsub := fm_sub (fun d y h => h) fm
      obtain ⟨gs, hgs, hg2⟩ : ∃ gs : List Int, ys = nI gs ∧ gs.Sublist ((List.range m).map fun i => ((i : Nat) : Int)) := by
        have e0 : rngL 0 m = nI ((List.range m).map fun i => ((i : Nat) : Int)) := by
          unfold rngL nI
          rw [List.map_map]
          refine List.map_congr_left fun i _ => ?_
          simp
        rw [e0] at hsub
        unfold nI at hsub
        obtain ⟨gs, h1, h2⟩ := List.sublist_map_iff.mp hsub
        exact ⟨gs, h2, h1⟩
      refine ⟨_, rfl, .inr ⟨p', ys, rfl, e, by rw [sizeLine_eq]; simp, ?_⟩⟩
      rw [hgs]
      have eK : (Srt.mk m K gs).tbl = K.map fun p => (Sum.inr p.1, .tup (nI p.2)) := rfl
      refine hq ⟨m, K, gs⟩ ru st' (dr.trans x') nru ⟨⟨by simp only; omega, by simp only; omega, by simpa using keys, rows, fun n hn => ?_, ?_⟩, x'.1 ru _ (hh.ne nru) (by rw [eru, eK])⟩
      · obtain ⟨i, hi, rfl⟩ := List.mem_map.mp (hg2.subset hn)
        have := List.mem_range.mp hi
        simp only
        omega
      · have hp : ((List.range m).map fun i => ((i : Nat) : Int)).Pairwise (· < ·) := by
          rw [List.pairwise_map]
          exact List.pairwise_lt_range.imp fun h => by omega
        exact hp.sublist hg2
end K73
/-! K15: what is no type. -/
namespace K73
open PySem PySem.Spec L2 DL
/-- known, and no type -/
def NoT (st : Stt) (d : D) : Prop := Ty st d ∧ isTypeF st d = false
theorem mem_putD {κ : Type} [DecidableEq κ] {kvs : List (κ × D)} {k : κ} {d : D} {p : κ × D} (h : p ∈ putD kvs k d) : p ∈ kvs ∨ p.2 = d := by
  unfold putD at h
  split at h
  · obtain ⟨q, hq, rfl⟩ := List.mem_map.mp h
    split
    · exact .inr rfl
    · exact .inl hq
  · rcases List.mem_append.mp h with h | h
    · exact .inl h
    · rw [List.mem_singleton.mp h]; exact .inr rfl
theorem valD_drop {κ : Type} [DecidableEq κ] {k : κ} : ∀ {kvs : List (κ × D)}, valD (dropD kvs k) k = none
  | [] => rfl
  | (k1, d1) :: r => by
    have ih := valD_drop (k := k) (kvs := r)
    unfold dropD at ih ⊢
    by_cases h : k1 = k
    · rw [List.filter_cons_of_neg (by simp [h])]; exact ih
    · rw [List.filter_cons_of_pos (by simp [h])]
      simp only [valD, if_neg h]
      exact ih
theorem mem_drop {κ : Type} [DecidableEq κ] {kvs : List (κ × D)} {k : κ} {p : κ × D} (h : p ∈ dropD kvs k) : p ∈ kvs := (List.mem_filter.mp h).1
section
variable {st : Stt} {S : Srt} {a b : Addr} (ok : S.Ok)
theorem ty_ints {ns : List Int} (h : ns.length ≤ 1000) : Ty st (.tup (nI ns)) := .tup (by unfold nI; simpa using h) fun d hd => by
  obtain ⟨n, _, rfl⟩ := List.mem_map.mp hd
  exact .int
theorem ty3 {x y z : D} (h1 : Ty st x) (h2 : Ty st y) (h3 : Ty st z) : Ty st (.tup [x, y, z]) := .tup (by simp) fun d hd => by
  simp only [List.mem_cons, List.not_mem_nil, or_false] at hd
  rcases hd with rfl | rfl | rfl <;> assumption
theorem ty1 {x : D} (h1 : Ty st x) : Ty st (.tup [x]) := .tup (by simp) fun d hd => by
  rw [List.mem_singleton.mp hd]; exact h1
theorem ty2 {x y : D} (h1 : Ty st x) (h2 : Ty st y) : Ty st (.tup [x, y]) := .tup (by simp) fun d hd => by
  simp only [List.mem_cons, List.not_mem_nil, or_false] at hd
  rcases hd with rfl | rfl <;> assumption
theorem isT3 (m : Int) (r g : D) : isTypeF st (.tup [.int m, r, g]) = (inR (.int m) 1 5 && (rulesF st m r && goodF m g)) := rfl
include ok
theorem row_len {x : Str} (hx : x ∈ SGs) : (S.row x).length ≤ 125 ∧ 1 ≤ (S.row x).length := by
  obtain ⟨h1, _, _⟩ := S.row_ok ok hx
  have h3 : rk x ≤ 3 := by
    have key : ∀ y ∈ SGs, rk y ≤ 3 := by decide +kernel
    exact key x hx
  rw [h1]
  refine ⟨?_, Nat.one_le_pow _ _ ok.m1⟩
  calc S.many ^ rk x ≤ 5 ^ rk x := Nat.pow_le_pow_left ok.m5 _
    _ ≤ 5 ^ 3 := Nat.pow_le_pow_right (by decide) h3
    _ = 125 := by decide
theorem tbl_ty : ∀ p ∈ S.tbl, Ty st p.2 := fun p hp => by
  obtain ⟨⟨x, ns⟩, hm, rfl⟩ := List.mem_map.mp hp
  have hx : x ∈ SGs := ok.keys.mem_iff.mp (List.mem_map.mpr ⟨_, hm, rfl⟩)
  obtain ⟨h1, _⟩ := ok.rows _ hm
  obtain ⟨h2, h3, _⟩ := S.row_ok ok hx
  have := (row_len ok hx).1
  refine ty_ints ?_
  show ns.length ≤ 1000
  simp only at h1
  omega
theorem good_ty : Ty st (.tup (nI S.good)) := ty_ints (by have := S.good_len ok; omega)
theorem tbl_ref (ea : st a = some (.dK S.tbl)) : Ty st (.ref a) := .dK ea (tbl_ty ok)
omit ok in
theorem w_r {m : Int} {r g : D} (h1 : Ty st r) (h2 : Ty st g) (h : rulesF st m r = false) : NoT st (.tup [.int m, r, g]) := ⟨ty3 .int h1 h2, by rw [isT3, h]; simp⟩
omit ok in
theorem w_g {m : Int} {r g : D} (h1 : Ty st r) (h2 : Ty st g) (h : goodF m g = false) : NoT st (.tup [.int m, r, g]) := ⟨ty3 .int h1 h2, by rw [isT3, h]; simp⟩
omit ok in
theorem w_m {m r g : D} (h0 : Ty st m) (h1 : Ty st r) (h2 : Ty st g) (h : inR m 1 5 = false) : NoT st (.tup [m, r, g]) := ⟨ty3 h0 h1 h2, by show (inR m 1 5 && _) = false; rw [h] <;> rfl⟩
omit ok in
theorem rules_okS {m : Nat} {kvs : List (Key × D)} (e : st b = some (.dK kvs)) : rulesF st m (.ref b) = (decide (kvs.length = 8) && ((SGs.all fun x => (valD kvs (.inr x)).isSome) && SGs.all (okS m kvs))) := by
  simp only [rulesF, e, Int.toNat_natCast]
  rfl
omit ok in
theorem all_no {α : Type} {l : List α} {f : α → Bool} {x : α} (hx : x ∈ l) (h : f x = false) : l.all f = false := by
  cases e : l.all f with
  | false => rfl
  | true => rw [List.all_eq_true.mp e x hx] at h; cases h
theorem w_bent {x : Str} {o : D} (eb : st b = some (.dK (putD S.tbl (.inr x) o))) (ho : Ty st o) (hx : x ∈ SGs) (hf : rowF S.many (S.many ^ rk x) o = false) : NoT st (.tup [.int S.many, .ref b, .tup (nI S.good)]) := by
  refine w_r (.dK eb fun p hp => ?_) (good_ty ok) ?_
  · rcases mem_putD hp with h | h
    · exact tbl_ty ok p h
    · rw [h]; exact ho
  · rw [rules_okS eb, all_no (f := okS S.many _) hx (by unfold okS; rw [valD_put, if_pos rfl]; exact hf)]
    simp
theorem w_less {x : Str} (eb : st b = some (.dK (dropD S.tbl (.inr x)))) (hx : x ∈ SGs) : NoT st (.tup [.int S.many, .ref b, .tup (nI S.good)]) := by
  refine w_r (.dK eb fun p hp => tbl_ty ok p (mem_drop hp)) (good_ty ok) ?_
  rw [rules_okS eb, all_no (f := fun x => (valD (dropD S.tbl _) (.inr x)).isSome) hx (by rw [valD_drop] <;> rfl)]
  simp
theorem tbl_no_d : (Sum.inr "d" : Key) ∉ S.tbl.map (·.1) := fun hm => by
  obtain ⟨p, hp, e⟩ := List.mem_map.mp hm
  obtain ⟨⟨x, ns⟩, hm, rfl⟩ := List.mem_map.mp hp
  have hx : x ∈ SGs := ok.keys.mem_iff.mp (List.mem_map.mpr ⟨_, hm, rfl⟩)
  have e : (Sum.inr x : Key) = (Sum.inr (Str.ofString "d") : Key) := e
  injection e with e
  rw [e] at hx
  have : (Str.ofString "d") ∉ SGs := by decide +kernel
  exact this hx
theorem w_more (eb : st b = some (.dK (putD S.tbl (.inr "d") (.tup [.int 0])))) : NoT st (.tup [.int S.many, .ref b, .tup (nI S.good)]) := by
  refine w_r (.dK eb fun p hp => ?_) (good_ty ok) ?_
  · rcases mem_putD hp with h | h
    · exact tbl_ty ok p h
    · rw [h]; exact ty1 .int
  · have h8 := S.len8 ok
    rw [rules_okS eb, putD_new (tbl_no_d ok), List.length_append, h8]
    rfl
theorem w_other (ea : st a = some (.dK S.tbl)) : NoT st (.tup [.int (1 + (S.many : Int) % 5), .ref a, .tup (nI S.good)]) := by
  refine w_r (tbl_ref ok ea) (good_ty ok) ?_
  have h1 := ok.m1
  have h5 := ok.m5
  have em : (1 + (S.many : Int) % 5) = ((1 + S.many % 5 : Nat) : Int) := by omega
  have hf : Str.ofString "f" ∈ SGs := by decide +kernel
  have hr : rk (Str.ofString "f") = 2 := by decide +kernel
  rw [em, rules_okS ea, all_no (f := okS _ _) hf]
  · simp
  · unfold okS
    rw [S.tbl_at ok hf]
    obtain ⟨r1, _, _⟩ := S.row_ok ok hf
    rw [hr] at r1
    have hne : ¬ (nI (S.row (Str.ofString "f"))).length = (1 + S.many % 5) ^ rk (Str.ofString "f") := by
      unfold nI
      rw [List.length_map, r1, hr]
      have : S.many = 1 ∨ S.many = 2 ∨ S.many = 3 ∨ S.many = 4 ∨ S.many = 5 := by omega
      rcases this with e | e | e | e | e <;> rw [e] <;> decide
    simp only [rowF, hne, decide_false, Bool.false_and]
omit ok in
theorem goodF_bad {m : Int} {ds : List D} {d : D} (h : inR d 0 (m - 1) = false) (hd : d ∈ ds) : goodF m (.tup ds) = false := by
  simp only [goodF]
  rw [all_no hd h] <;> rfl
omit ok in
theorem rowF_bad {m : Int} {l : Nat} {ds : List D} {d : D} (h : inR d 0 (m - 1) = false) (hd : d ∈ ds) : rowF m l (.tup ds) = false := by
  simp only [rowF]
  rw [all_no hd h] <;> simp
omit ok in
theorem rowF_len {m : Int} {l : Nat} {ds : List D} (h : ds.length ≠ l) : rowF m l (.tup ds) = false := by
  simp only [rowF, h, decide_false, Bool.false_and]
omit ok in
theorem incF_false {ns : List Int} : incF (nI ns) = true → ns.Pairwise (· < ·) := by
  intro h
  have key : ∀ (ns : List Int), incF (nI ns) = true → ns.Pairwise (· < ·) := by
    intro ns
    induction ns with
    | nil => intro _; exact .nil
    | cons a r ih =>
      intro h
      cases r with
      | nil => simp
      | cons b r =>
        have h' : (decide (a < b) && incF (nI (b :: r))) = true := h
        rw [Bool.and_eq_true] at h'
        have hp := ih h'.2
        have hab := of_decide_eq_true h'.1
        refine List.pairwise_cons.mpr ⟨fun c hc => ?_, hp⟩
        rcases List.mem_cons.mp hc with e | hc
        · rw [e]; exact hab
        · have := (List.pairwise_cons.mp hp).1 c hc
          omega
  exact key ns h
theorem w_rev (ea : st a = some (.dK S.tbl)) (hl : 1 < S.good.length) : NoT st (.tup [.int S.many, .ref a, .tup (nI S.good).reverse]) := by
  have er : (nI S.good).reverse = nI S.good.reverse := by unfold nI; rw [List.map_reverse]
  rw [er]
  refine w_g (tbl_ref ok ea) (ty_ints (by have := S.good_len ok; rw [List.length_reverse]; omega)) ?_
  simp only [goodF]
  cases e : incF (nI S.good.reverse) with
  | false => simp
  | true =>
    exfalso
    have h1 := incF_false e
    rw [List.pairwise_reverse] at h1
    have h2 := ok.inc
    match hg : S.good, hl with
    | x :: y :: r, _ =>
      rw [hg] at h1 h2
      have a := (List.pairwise_cons.mp h1).1 y (by simp)
      have b := (List.pairwise_cons.mp h2).1 y (by simp)
      omega
end
theorem NoT.flat {st : Stt} {d : D} (h : Ty st d) (hd : ∀ x y z, d ≠ .tup [x, y, z]) : NoT st d := ⟨h, by
  cases d with
  | tup ds =>
    match ds with
    | [] => rfl
    | [_] => rfl
    | [_, _] => rfl
    | [x, y, z] => exact absurd rfl (hd x y z)
    | _ :: _ :: _ :: _ :: _ => rfl
  | _ => rfl⟩
theorem cut_last {α : Type} (xs : List α) : cutL xs none (some (-1)) = xs.dropLast := by
  unfold cutL HT.sIx
  simp
  rw [List.dropLast_eq_take]
  congr 1
  omega
end K73
/-! K16: _law_wrong. -/
namespace K73
open PySem PySem.Spec L2 DL
/-- all but h and sm is as it was -/
def Mv2 (h sm : Addr) (st st' : Stt) : Prop := ∀ a o, a ≠ h → a ≠ sm → st a = some o → st' a = some o
theorem Mv2.trans {h sm : Addr} {a b c : Stt} (x : Mv2 h sm a b) (y : Mv2 h sm b c) : Mv2 h sm a c := fun p o h1 h2 e => y p o h1 h2 (x p o h1 h2 e)
theorem Mv2.ext {h sm : Addr} {a b : Stt} (x : Ext a b) : Mv2 h sm a b := fun p o _ _ e => x p o e
theorem Mv2.mov {h sm : Addr} {a b : Stt} (x : Mov h a b) : Mv2 h sm a b := fun p o h1 _ e => x p o h1 e
theorem Mv2.at_ {h sm : Addr} {a : Stt} {o : O} : Mv2 h sm a (put a sm o) := fun p u _ h2 e => by rw [put_ne h2]; exact e
theorem Mv2.refl {h sm : Addr} {a : Stt} : Mv2 h sm a a := fun _ _ _ _ e => e
/-- the list at sm: n things that are no types, whatever becomes of the list -/
structure WS (st0 st : Stt) (h sm : Addr) (n : Nat) : Prop where
  ext : Ext st0 st
  new : st0 sm = none
  el : ∃ xs, st sm = some (.lst xs) ∧ xs.length = n ∧ ∀ d ∈ xs, ∀ st', Mv2 h sm st st' → NoT st' d
theorem i_addL {st : Stt} {q : DQ} {a b : Addr} {xs ys : List D} (e : st a = some (.lst xs)) (e2 : st b = some (.lst ys)) (hl : xs.length + ys.length ≤ sizeLine) (h : ∀ p, st p = none → q (.ref p) (put st p (.lst (xs ++ ys)))) : oAdd (.ref a) (.ref b) st q := ⟨xs, ys, e, e2, hl, h⟩
theorem i_dictD {st : Stt} {q : DQ} {a : Addr} {kvs : List (Key × D)} (e : st a = some (.dK kvs)) (h : ∀ p, st p = none → q (.ref p) (put st p (.dK kvs))) : nDict [.ref a] st q := ⟨a, rfl, .inr ⟨kvs, e, h⟩⟩
theorem i_listT {st : Stt} {q : DQ} {xs : List D} (h : ∀ p, st p = none → q (.ref p) (put st p (.lst xs))) : nList [.tup xs] st q := ⟨_, rfl, .inl ⟨xs, rfl, h⟩⟩
theorem i_listK {st : Stt} {q : DQ} {a : Addr} {kvs : List (Key × D)} (e : st a = some (.dK kvs)) (h : ∀ p, st p = none → q (.ref p) (put st p (.lst (kvs.map fun kv => dK kv.1)))) : nList [.ref a] st q := ⟨_, rfl, .inr ⟨a, rfl, .inr ⟨kvs, e, h⟩⟩⟩
theorem i_addT {st : Stt} {q : DQ} {xs ys : List D} (hl : xs.length + ys.length ≤ sizeLine) (h : q (.tup (xs ++ ys)) st) : oAdd (.tup xs) (.tup ys) st q := ⟨hl, h⟩
theorem WS.add {st0 st st1 : Stt} {h sm p : Addr} {n : Nat} {ys : List D} {q : DQ} (w : WS st0 st h sm n) (x : Ext st st1) (e : st1 p = some (.lst ys)) (hn : n ≤ 100) (hy : ys.length ≤ 100) (hy2 : ∀ y ∈ ys, ∀ st', Mov h st1 st' → NoT st' y) (hq : ∀ sm' st', WS st0 st' h sm' (n + ys.length) → q (.ref sm') st') : oAdd (.ref sm) (.ref p) st1 q := by
  obtain ⟨x0, nw, xs, ex, el, hx⟩ := w
  refine i_addL (x sm _ ex) e (by rw [sizeLine_eq]; omega) fun sm' np => hq sm' _ ⟨(x0.trans x).trans (.new np), (x0.trans x).none np, xs ++ ys, put_same, by rw [List.length_append, el], fun d hd st' mv => ?_⟩
  have xe : Mov h st1 st' := fun a o n1 e => mv a o n1 (neq_of e np) (by rw [put_ne (neq_of e np)]; exact e)
  rcases List.mem_append.mp hd with hd | hd
  · exact hx d hd st' fun a o n1 _ e => xe a o n1 (x a o e)
  · exact hy2 d hd st' xe
theorem WS.app {st0 st st1 : Stt} {h sm : Addr} {n : Nat} {y : D} {q : DQ} (w : WS st0 st h sm n) (x : Ext st st1) (hn : n ≤ 100) (hy : ∀ st', Mv2 h sm st1 st' → NoT st' y) (hq : ∀ st', Mv2 h sm st1 st' → WS st0 st' h sm (n + 1) → q .non st') : mAppend (.ref sm) [y] st1 q := by
  obtain ⟨x0, nw, xs, ex, el, hx⟩ := w
  refine i_append (x sm _ ex) (by rw [sizeLine_eq]; omega) (hq _ .at_ ⟨(x0.trans x).put nw, nw, xs ++ [y], put_same, by simp [el], fun d hd st' mv => ?_⟩)
  have mv1 : Mv2 h sm st1 st' := Mv2.at_.trans mv
  rcases List.mem_append.mp hd with hd | hd
  · exact hx d hd st' ((Mv2.ext x).trans mv1)
  · rw [List.mem_singleton.mp hd]; exact hy st' mv1
section
variable {Γ : Gn} {ex : DXE} {N : DN} {h a sm : Addr} {S : Srt} {x : Str} {st0 : Stt} {o8 o9 : Option D} {n : Nat}
theorem wrong_body {st : Stt} {o : D} (hh : HandOk st0 h) (ok : S.Ok) (ea : st0 a = some (.dK S.tbl)) (hx : x ∈ SGs) (w : WS st0 st h sm n) (hn : n ≤ 100) (ho : ∀ st', Mv2 h sm st st' → Ty st' o) (hf : rowF S.many (S.many ^ rk x) o = false)
    (hq : ∀ st' o9, Mv2 h sm st st' → WS st0 st' h sm (n + 1) → N.nx [some (.ref h), some (S.d a), some (.int S.many), some (.ref a), some (.tup (nI S.good)), some (.str x), some (.tup (nI (S.row x))), some (.ref sm), some o, o9, none, none] st') :
    b__law_wrong_3 Γ ex N [some (.ref h), some (S.d a), some (.int S.many), some (.ref a), some (.tup (nI S.good)), some (.str x), some (.tup (nI (S.row x))), some (.ref sm), some o, o9, none, none] st := by
  unfold b__law_wrong_3
  simp only [sRet, sSeq, sNext, sIf, sDrop, sSet, sAsg, sPar, sPar3, sAug, sRaise, dAndV, dOrV, dNotV, dAnd, dOr, dNot, dB, dIf, dOp, dUn, dCB, dVar, dC, dNil, dCons, dTup, dLst, dChain, dCall, gNm, gTp, gsCons, gsNil, DL.gSub, nIsi, dBM, dBM0, dPart, dNoPart, dSl, dInW, dIxW, dNewK, dNewT, dRevL, dRevT, dDPop1, dItems, dLRg, iTupD, iLstD, iStrD, iEnD, iRng1D, iRng2D, oI2, oNeg, List.getElem?_cons_zero, List.getElem?_cons_succ, List.set_cons_zero, List.set_cons_succ, exists_eq_left', exists_eq_left, exists_and_left, exists_eq', and_assoc, Option.some.injEq, List.cons.injEq, D.ty.injEq, D.bl.injEq, D.int.injEq, D.str.injEq, D.tup.injEq, D.ref.injEq, and_true, true_and]
  refine i_dictD (w.ext a _ ea) fun b nb => ?_
  unfold u__law_wrong_3_1
  simp only [sRet, sSeq, sNext, sIf, sDrop, sSet, sAsg, sPar, sPar3, sAug, sRaise, dAndV, dOrV, dNotV, dAnd, dOr, dNot, dB, dIf, dOp, dUn, dCB, dVar, dC, dNil, dCons, dTup, dLst, dChain, dCall, gNm, gTp, gsCons, gsNil, DL.gSub, nIsi, dBM, dBM0, dPart, dNoPart, dSl, dInW, dIxW, dNewK, dNewT, dRevL, dRevT, dDPop1, dItems, dLRg, iTupD, iLstD, iStrD, iEnD, iRng1D, iRng2D, oI2, oNeg, List.getElem?_cons_zero, List.getElem?_cons_succ, List.set_cons_zero, List.set_cons_succ, exists_eq_left', exists_eq_left, exists_and_left, exists_eq', and_assoc, Option.some.injEq, List.cons.injEq, D.ty.injEq, D.bl.injEq, D.int.injEq, D.str.injEq, D.tup.injEq, D.ref.injEq, and_true, true_and]
  refine i_setK put_same rfl (by rw [sizeLine_eq, S.len8 ok]; decide) ?_
  rw [put_put]
  unfold u__law_wrong_3_2
  simp only [sRet, sSeq, sNext, sIf, sDrop, sSet, sAsg, sPar, sPar3, sAug, sRaise, dAndV, dOrV, dNotV, dAnd, dOr, dNot, dB, dIf, dOp, dUn, dCB, dVar, dC, dNil, dCons, dTup, dLst, dChain, dCall, gNm, gTp, gsCons, gsNil, DL.gSub, nIsi, dBM, dBM0, dPart, dNoPart, dSl, dInW, dIxW, dNewK, dNewT, dRevL, dRevT, dDPop1, dItems, dLRg, iTupD, iLstD, iStrD, iEnD, iRng1D, iRng2D, oI2, oNeg, List.getElem?_cons_zero, List.getElem?_cons_succ, List.set_cons_zero, List.set_cons_succ, exists_eq_left', exists_eq_left, exists_and_left, exists_eq', and_assoc, Option.some.injEq, List.cons.injEq, D.ty.injEq, D.bl.injEq, D.int.injEq, D.str.injEq, D.tup.injEq, D.ref.injEq, and_true, true_and]
  have xs : Ext st (put st b (.dK (putD S.tbl (.inr x) o))) := .new nb
  obtain ⟨ys, ey, _⟩ := w.el
  have hbh : b ≠ h := ((Dr.refl hh).ext w.ext).2.1.ne nb
  have hbs : b ≠ sm := (neq_of ey nb).symm
  refine ⟨i_isL (xs sm _ ey), by rw [sizeLine_eq]; simp, w.app xs hn (fun st' mv => ?_) fun st' mv w' => hq st' _ ((Mv2.ext xs).trans mv) w'⟩
  exact w_bent ok (mv b _ hbh hbs put_same) (ho st' ((Mv2.ext xs).trans mv)) hx hf
theorem wrong_loop {chk : Stt → Prop} {stL : Stt} (hc : ∀ st, chk st) (hh : HandOk st0 h) (ok : S.Ok) (ea : st0 a = some (.dK S.tbl)) (hx : x ∈ SGs) : ∀ (os : List D) (n : Nat) (st : Stt) (o8 o9 : Option D), (∀ o ∈ os, (∀ st', Mv2 h sm stL st' → Ty st' o) ∧ rowF S.many (S.many ^ rk x) o = false) → Mv2 h sm stL st → WS st0 st h sm n → n + os.length ≤ 100 →
    (∀ st' o8 o9, WS st0 st' h sm (n + os.length) → N.nx [some (.ref h), some (S.d a), some (.int S.many), some (.ref a), some (.tup (nI S.good)), some (.str x), some (.tup (nI (S.row x))), some (.ref sm), o8, o9, none, none] st') →
    runF chk (gNm 8) (b__law_wrong_3 Γ ex) N os [some (.ref h), some (S.d a), some (.int S.many), some (.ref a), some (.tup (nI S.good)), some (.str x), some (.tup (nI (S.row x))), some (.ref sm), o8, o9, none, none] st
  | [], n, st, o8, o9, _, _, w, _, hq => hq st o8 o9 w
  | o :: os, n, st, o8, o9, ho, mv, w, hl, hq => by
    obtain ⟨h1, h2⟩ := ho o List.mem_cons_self
    simp only [List.length_cons] at hl
    refine wrong_body (Γ := Γ) (ex := ex) hh ok ea hx w (by omega) (fun st' m => h1 st' (mv.trans m)) h2 fun st' o9 mv' w' => ⟨hc _, ?_⟩
    refine wrong_loop hc hh ok ea hx os (n + 1) st' _ o9 (fun o hm => ho o (List.mem_cons_of_mem _ hm)) (mv.trans mv') w' (by omega) fun st2 o8 o9 w2 => hq st2 o8 o9 ?_
    rw [show n + (o :: os).length = n + 1 + os.length by simp; omega]
    exact w2
variable {rt : DQ} {nx : DEnv → Stt → Prop}
/-- the end: one of them is drawn -/
theorem wrong_13 {st : Stt} {o10 o11 : Option D} {d6 : Option D} (hh : HandOk st0 h) (hnh : sm ≠ h) (w : WS st0 st h sm n) (hn : n ≤ 100) (h1 : 1 ≤ n) (hq : ∀ d st', Dr h st0 st' → (∀ st2, Mov h st' st2 → NoT st2 d) → rt d st') {o1 o2 o3 o4 o5 : Option D} :
    u__law_wrong_13 Γ ex { nx := nx, rt := rt } [some (.ref h), o1, o2, o3, o4, o5, d6, some (.ref sm), o8, o9, o10, o11] st := by
  obtain ⟨x0, nw, xs, e, el, hx⟩ := w
  unfold u__law_wrong_13
  simp only [sRet, sSeq, sNext, sIf, sDrop, sSet, sAsg, sPar, sPar3, sAug, sRaise, dAndV, dOrV, dNotV, dAnd, dOr, dNot, dB, dIf, dOp, dUn, dCB, dVar, dC, dNil, dCons, dTup, dLst, dChain, dCall, gNm, gTp, gsCons, gsNil, DL.gSub, nIsi, dBM, dBM0, dPart, dNoPart, dSl, dInW, dIxW, dNewK, dNewT, dRevL, dRevT, dDPop1, dItems, dLRg, iTupD, iLstD, iStrD, iEnD, iRng1D, iRng2D, oI2, oNeg, List.getElem?_cons_zero, List.getElem?_cons_succ, List.set_cons_zero, List.set_cons_succ, exists_eq_left', exists_eq_left, exists_and_left, exists_eq', and_assoc, Option.some.injEq, List.cons.injEq, D.ty.injEq, D.bl.injEq, D.int.injEq, D.str.injEq, D.tup.injEq, D.ref.injEq, and_true, true_and]
  have d0 : Dr h st0 st := (Dr.refl hh).ext x0
  refine ⟨h, sm, xs, rfl, hnh, e, ?_, by omega, d0.2.1, fun d st' hd dr => ?_⟩
  · intro z; rw [z] at el; simp at el; omega
  · exact hq d st' (d0.trans dr) fun st2 mv => hx d hd st2 ((Mv2.mov dr.1).trans (Mv2.mov mv))
theorem NoT.ty {st : Stt} {d : D} (h : NoT st d) : Ty st d := h.1
theorem wrong_12 {st : Stt} {o10 o11 : Option D} (hh : HandOk st0 h) (ok : S.Ok) (ea : st0 a = some (.dK S.tbl)) (hah : a ≠ h) (w : WS st0 st h sm n) (hn : n ≤ 90) (h1 : 1 ≤ n) (hq : ∀ d st', Dr h st0 st' → (∀ st2, Mov h st' st2 → NoT st2 d) → rt d st') :
    u__law_wrong_12 Γ ex { nx := nx, rt := rt } [some (.ref h), some (S.d a), some (.int S.many), some (.ref a), some (.tup (nI S.good)), some (.str x), some (.tup (nI (S.row x))), some (.ref sm), o8, o9, o10, o11] st := by
  have has : a ≠ sm := neq_of ea w.new
  unfold u__law_wrong_12
  simp only [sRet, sSeq, sNext, sIf, sDrop, sSet, sAsg, sPar, sPar3, sAug, sRaise, dAndV, dOrV, dNotV, dAnd, dOr, dNot, dB, dIf, dOp, dUn, dCB, dVar, dC, dNil, dCons, dTup, dLst, dChain, dCall, gNm, gTp, gsCons, gsNil, DL.gSub, nIsi, dBM, dBM0, dPart, dNoPart, dSl, dInW, dIxW, dNewK, dNewT, dRevL, dRevT, dDPop1, dItems, dLRg, iTupD, iLstD, iStrD, iEnD, iRng1D, iRng2D, oI2, oNeg, List.getElem?_cons_zero, List.getElem?_cons_succ, List.set_cons_zero, List.set_cons_succ, exists_eq_left', exists_eq_left, exists_and_left, exists_eq', and_assoc, Option.some.injEq, List.cons.injEq, D.ty.injEq, D.bl.injEq, D.int.injEq, D.str.injEq, D.tup.injEq, D.ref.injEq, and_true, true_and]
  refine i_lenT (t_gt ?_)
  have hnl : (nI S.good).length = S.good.length := by unfold nI; simp
  rw [hnl]
  by_cases hg : 1 < S.good.length
  · rw [if_pos (decide_eq_true (by omega))]
    obtain ⟨xs, e, _⟩ := w.el
    refine ⟨i_isL e, by rw [sizeLine_eq]; simp, w.app .refl (by omega) (fun st' mv => w_rev ok (mv a _ hah has (w.ext a _ ea)) hg) fun st' mv w' => ?_⟩
    exact wrong_13 hh (hh.ne w.new) w' (by omega) (by omega) hq
  · rw [if_neg (by rw [decide_eq_false (by omega)]; decide)]
    exact wrong_13 hh (hh.ne w.new) w (by omega) h1 hq
theorem wrong_11 {st : Stt} {o10 o11 : Option D} (hh : HandOk st0 h) (ok : S.Ok) (ea : st0 a = some (.dK S.tbl)) (hah : a ≠ h) (w : WS st0 st h sm n) (hn : n ≤ 80) (hq : ∀ d st', Dr h st0 st' → (∀ st2, Mov h st' st2 → NoT st2 d) → rt d st') :
    u__law_wrong_11 Γ ex { nx := nx, rt := rt } [some (.ref h), some (S.d a), some (.int S.many), some (.ref a), some (.tup (nI S.good)), some (.str x), some (.tup (nI (S.row x))), some (.ref sm), o8, o9, o10, o11] st := by
  have has : a ≠ sm := neq_of ea w.new
  have hd0 : ∀ {st' : Stt}, Ext st0 st' → HandOk st' h := fun x => ((Dr.refl hh).ext x).2.1
  unfold u__law_wrong_11
  simp only [sRet, sSeq, sNext, sIf, sDrop, sSet, sAsg, sPar, sPar3, sAug, sRaise, dAndV, dOrV, dNotV, dAnd, dOr, dNot, dB, dIf, dOp, dUn, dCB, dVar, dC, dNil, dCons, dTup, dLst, dChain, dCall, gNm, gTp, gsCons, gsNil, DL.gSub, nIsi, dBM, dBM0, dPart, dNoPart, dSl, dInW, dIxW, dNewK, dNewT, dRevL, dRevT, dDPop1, dItems, dLRg, iTupD, iLstD, iStrD, iEnD, iRng1D, iRng2D, oI2, oNeg, List.getElem?_cons_zero, List.getElem?_cons_succ, List.set_cons_zero, List.set_cons_succ, exists_eq_left', exists_eq_left, exists_and_left, exists_eq', and_assoc, Option.some.injEq, List.cons.injEq, D.ty.injEq, D.bl.injEq, D.int.injEq, D.str.injEq, D.tup.injEq, D.ref.injEq, and_true, true_and]
  refine i_listT fun p1 n1 => ?_
  have x1 : Ext st (put st p1 (.lst [.int S.many, .ref a, .tup (nI S.good)])) := .new n1
  have e1 : put st p1 (.lst [D.int S.many, .ref a, .tup (nI S.good)]) p1 = some (.lst [D.int S.many, .ref a, .tup (nI S.good)]) := put_same
  have h1 : p1 ≠ h := (hd0 w.ext).ne n1
  generalize put st p1 (.lst [.int S.many, .ref a, .tup (nI S.good)]) = st1 at x1 e1 ⊢
  refine i_slT (xs := [.int S.many, .ref a, .tup (nI S.good)]) ⟨by decide, i_addT (xs := [.int S.many, .ref a, .tup (nI S.good)]) (by show 4 ≤ sizeLine; decide) ⟨by decide, fun p2 n2 => ⟨by show 8 ≤ sizeLine; decide, fun p3 n3 => ?_⟩⟩⟩
  have h2 : p2 ≠ h := (hd0 (w.ext.trans x1)).ne n2
  have x2 := x1.trans (Ext.new (o := .dK []) n2)
  have x3 := x2.trans (Ext.new (o := .lst [.ref p1, .tup (cutL [.int S.many, .ref a, .tup (nI S.good)] none (some 2)), .tup ([.int S.many, .ref a, .tup (nI S.good)] ++ [.int 0]), .non, .int 7, .str "type", .tup [], .ref p2]) n3)
  have hp13 : p1 ≠ p3 := neq_of (show put st1 p2 (.dK []) p1 = some _ by rw [put_ne (neq_of e1 n2)]; exact e1) n3
  have hp23 : p2 ≠ p3 := neq_of put_same n3
  refine w.add x3 put_same (by omega) (by simp) (fun y hy st' mv => ?_) fun sm' st' w' => wrong_12 hh ok ea hah w' (by simp; omega) (by simp) hq
  have ma : st' a = some (.dK S.tbl) := mv a _ hah (x3 a _ (w.ext a _ ea))
  have m1 : st' p1 = some (.lst [D.int S.many, .ref a, .tup (nI S.good)]) := mv p1 _ h1 (by rw [put_ne hp13, put_ne (neq_of e1 n2)]; exact e1)
  have m2 : st' p2 = some (.dK []) := mv p2 _ h2 (by rw [put_ne hp23]; exact put_same)
  simp only [List.mem_cons, List.not_mem_nil, or_false] at hy
  rcases hy with rfl | rfl | rfl | rfl | rfl | rfl | rfl | rfl
  · exact NoT.flat (.lst m1) fun _ _ _ z => nomatch z
  · exact NoT.flat (ty2 .int (tbl_ref ok ma)) fun _ _ _ z => by cases z
  · refine NoT.flat (.tup (by simp) fun d hd => ?_) fun _ _ _ z => by cases z
    simp only [List.mem_append, List.mem_cons, List.not_mem_nil, or_false] at hd
    rcases hd with (rfl | rfl | rfl) | rfl
    · exact .int
    · exact tbl_ref ok ma
    · exact good_ty ok
    · exact .int
  · exact NoT.flat .non fun _ _ _ z => nomatch z
  · exact NoT.flat .int fun _ _ _ z => nomatch z
  · exact NoT.flat .str fun _ _ _ z => nomatch z
  · exact NoT.flat (.tup (by simp) fun d hd => by cases hd) fun _ _ _ z => by cases z
  · exact NoT.flat (.dK m2 fun p hp => by cases hp) fun _ _ _ z => nomatch z
theorem wrong_10 {st : Stt} {o10 o11 : Option D} (hh : HandOk st0 h) (ok : S.Ok) (ea : st0 a = some (.dK S.tbl)) (hah : a ≠ h) (w : WS st0 st h sm n) (hn : n ≤ 70) (hq : ∀ d st', Dr h st0 st' → (∀ st2, Mov h st' st2 → NoT st2 d) → rt d st') :
    u__law_wrong_10 Γ ex { nx := nx, rt := rt } [some (.ref h), some (S.d a), some (.int S.many), some (.ref a), some (.tup (nI S.good)), some (.str x), some (.tup (nI (S.row x))), some (.ref sm), o8, o9, o10, o11] st := by
  unfold u__law_wrong_10
  simp only [sRet, sSeq, sNext, sIf, sDrop, sSet, sAsg, sPar, sPar3, sAug, sRaise, dAndV, dOrV, dNotV, dAnd, dOr, dNot, dB, dIf, dOp, dUn, dCB, dVar, dC, dNil, dCons, dTup, dLst, dChain, dCall, gNm, gTp, gsCons, gsNil, DL.gSub, nIsi, dBM, dBM0, dPart, dNoPart, dSl, dInW, dIxW, dNewK, dNewT, dRevL, dRevT, dDPop1, dItems, dLRg, iTupD, iLstD, iStrD, iEnD, iRng1D, iRng2D, oI2, oNeg, List.getElem?_cons_zero, List.getElem?_cons_succ, List.set_cons_zero, List.set_cons_succ, exists_eq_left', exists_eq_left, exists_and_left, exists_eq', and_assoc, Option.some.injEq, List.cons.injEq, D.ty.injEq, D.bl.injEq, D.int.injEq, D.str.injEq, D.tup.injEq, D.ref.injEq, and_true, true_and]
  refine ⟨by decide, by rw [sizeLine_eq]; simp, by decide, by rw [sizeLine_eq]; simp, by rw [sizeLine_eq]; simp, by rw [sizeLine_eq]; simp, by rw [sizeLine_eq]; simp, fun p np => ?_⟩
  refine w.add (.new np) put_same (by omega) (by simp) (fun y hy st' mv => ?_) fun sm' st' w' => wrong_11 hh ok ea hah w' (by simp; omega) hq
  have ma : st' a = some (.dK S.tbl) := mv a _ hah (Ext.new np a _ (w.ext a _ ea))
  simp only [List.mem_cons, List.not_mem_nil, or_false] at hy
  rcases hy with rfl | rfl | rfl | rfl
  · exact w_g (tbl_ref ok ma) (ty1 .bl) (goodF_bad (d := .bl false) rfl (by simp))
  · exact w_g (tbl_ref ok ma) (ty1 .int) (goodF_bad (d := .int (-1)) (by simp [inR]) (by simp))
  · exact w_g (tbl_ref ok ma) .non rfl
  · exact w_m .non (tbl_ref ok ma) (good_ty ok) rfl
theorem wrong_9 {st : Stt} {o10 o11 : Option D} (hh : HandOk st0 h) (ok : S.Ok) (ea : st0 a = some (.dK S.tbl)) (hah : a ≠ h) (w : WS st0 st h sm n) (hn : n ≤ 60) (hq : ∀ d st', Dr h st0 st' → (∀ st2, Mov h st' st2 → NoT st2 d) → rt d st') :
    u__law_wrong_9 Γ ex { nx := nx, rt := rt } [some (.ref h), some (S.d a), some (.int S.many), some (.ref a), some (.tup (nI S.good)), some (.str x), some (.tup (nI (S.row x))), some (.ref sm), o8, o9, o10, o11] st := by
  have hd0 : ∀ {st' : Stt}, Ext st0 st' → HandOk st' h := fun x => ((Dr.refl hh).ext x).2.1
  have hgl := S.good_len ok
  unfold u__law_wrong_9
  simp only [sRet, sSeq, sNext, sIf, sDrop, sSet, sAsg, sPar, sPar3, sAug, sRaise, dAndV, dOrV, dNotV, dAnd, dOr, dNot, dB, dIf, dOp, dUn, dCB, dVar, dC, dNil, dCons, dTup, dLst, dChain, dCall, gNm, gTp, gsCons, gsNil, DL.gSub, nIsi, dBM, dBM0, dPart, dNoPart, dSl, dInW, dIxW, dNewK, dNewT, dRevL, dRevT, dDPop1, dItems, dLRg, iTupD, iLstD, iStrD, iEnD, iRng1D, iRng2D, oI2, oNeg, List.getElem?_cons_zero, List.getElem?_cons_succ, List.set_cons_zero, List.set_cons_succ, exists_eq_left', exists_eq_left, exists_and_left, exists_eq', and_assoc, Option.some.injEq, List.cons.injEq, D.ty.injEq, D.bl.injEq, D.int.injEq, D.str.injEq, D.tup.injEq, D.ref.injEq, and_true, true_and]
  refine i_listT fun p1 n1 => ⟨by rw [sizeLine_eq]; simp, by rw [sizeLine_eq]; simp, i_addT (by rw [sizeLine_eq]; unfold nI; simp; omega) ⟨by rw [sizeLine_eq]; simp, by decide, by rw [sizeLine_eq]; simp, by rw [sizeLine_eq]; simp, fun p np => ?_⟩⟩
  have h1 : p1 ≠ h := (hd0 w.ext).ne n1
  have x1 := Ext.new (o := .lst (nI S.good)) n1
  have x2 := x1.trans (Ext.new (o := .lst [.tup [.int S.many, .ref a, .ref p1], .tup [.int S.many, .ref a, .tup (nI S.good ++ [.int S.many])], .tup [.int S.many, .ref a, .tup [.int 0, .int 0]]]) np)
  refine w.add x2 put_same (by omega) (by simp) (fun y hy st' mv => ?_) fun sm' st' w' => wrong_10 hh ok ea hah w' (by simp; omega) hq
  have ma : st' a = some (.dK S.tbl) := mv a _ hah (x2 a _ (w.ext a _ ea))
  have m1 : st' p1 = some (.lst (nI S.good)) := mv p1 _ h1 (by rw [put_ne (neq_of put_same np)]; exact put_same)
  simp only [List.mem_cons, List.not_mem_nil, or_false] at hy
  rcases hy with rfl | rfl | rfl
  · exact w_g (tbl_ref ok ma) (.lst m1) rfl
  · refine w_g (tbl_ref ok ma) ?_ (goodF_bad (d := .int S.many) (by simp [inR]; omega) (by simp))
    have : nI S.good ++ [D.int S.many] = nI (S.good ++ [(S.many : Int)]) := by unfold nI; simp
    rw [this]
    exact ty_ints (by simp; omega)
  · refine w_g (tbl_ref ok ma) (ty2 .int .int) ?_
    simp only [goodF]
    have : incF [D.int 0, .int 0] = false := by decide
    rw [this]
    simp
theorem wrong_8 {st : Stt} {o10 o11 : Option D} (hh : HandOk st0 h) (ok : S.Ok) (ea : st0 a = some (.dK S.tbl)) (hah : a ≠ h) (w : WS st0 st h sm n) (hn : n ≤ 50) (hq : ∀ d st', Dr h st0 st' → (∀ st2, Mov h st' st2 → NoT st2 d) → rt d st') :
    u__law_wrong_8 Γ ex { nx := nx, rt := rt } [some (.ref h), some (S.d a), some (.int S.many), some (.ref a), some (.tup (nI S.good)), some (.str x), some (.tup (nI (S.row x))), some (.ref sm), o8, o9, o10, o11] st := by
  unfold u__law_wrong_8
  simp only [sRet, sSeq, sNext, sIf, sDrop, sSet, sAsg, sPar, sPar3, sAug, sRaise, dAndV, dOrV, dNotV, dAnd, dOr, dNot, dB, dIf, dOp, dUn, dCB, dVar, dC, dNil, dCons, dTup, dLst, dChain, dCall, gNm, gTp, gsCons, gsNil, DL.gSub, nIsi, dBM, dBM0, dPart, dNoPart, dSl, dInW, dIxW, dNewK, dNewT, dRevL, dRevT, dDPop1, dItems, dLRg, iTupD, iLstD, iStrD, iEnD, iRng1D, iRng2D, oI2, oNeg, List.getElem?_cons_zero, List.getElem?_cons_succ, List.set_cons_zero, List.set_cons_succ, exists_eq_left', exists_eq_left, exists_and_left, exists_eq', and_assoc, Option.some.injEq, List.cons.injEq, D.ty.injEq, D.bl.injEq, D.int.injEq, D.str.injEq, D.tup.injEq, D.ref.injEq, and_true, true_and]
  refine ⟨by decide, by rw [sizeLine_eq]; simp, by rw [sizeLine_eq]; simp, by rw [sizeLine_eq]; simp, i_int (i_mod (by decide) (i_add ⟨by rw [sizeLine_eq]; simp, by rw [sizeLine_eq]; simp, fun p np => ?_⟩))⟩
  refine w.add (.new np) put_same (by omega) (by simp) (fun y hy st' mv => ?_) fun sm' st' w' => wrong_9 hh ok ea hah w' (by simp; omega) hq
  have ma : st' a = some (.dK S.tbl) := mv a _ hah (Ext.new np a _ (w.ext a _ ea))
  simp only [List.mem_cons, List.not_mem_nil, or_false] at hy
  rcases hy with rfl | rfl | rfl | rfl
  · exact w_m .int (tbl_ref ok ma) (.tup (by simp) fun d hd => by cases hd) (by decide)
  · exact w_m .int (tbl_ref ok ma) (good_ty ok) (by decide)
  · exact w_m .bl (tbl_ref ok ma) (good_ty ok) rfl
  · exact w_other ok ma
theorem wrong_7 {st : Stt} {o8 o9 : Option D} {b c : Addr} (hh : HandOk st0 h) (ok : S.Ok) (ea : st0 a = some (.dK S.tbl)) (hah : a ≠ h) (hx : x ∈ SGs) (hbh : b ≠ h) (hch : c ≠ h) (eb : st b = some (.dK (dropD S.tbl (.inr x)))) (ec : st c = some (.dK (putD S.tbl (.inr "d") (.tup [.int 0])))) (w : WS st0 st h sm n) (hn : n ≤ 40)
    (hq : ∀ d st', Dr h st0 st' → (∀ st2, Mov h st' st2 → NoT st2 d) → rt d st') :
    u__law_wrong_7 Γ ex { nx := nx, rt := rt } [some (.ref h), some (S.d a), some (.int S.many), some (.ref a), some (.tup (nI S.good)), some (.str x), some (.tup (nI (S.row x))), some (.ref sm), o8, o9, some (.ref b), some (.ref c)] st := by
  have hd0 : ∀ {st' : Stt}, Ext st0 st' → HandOk st' h := fun x => ((Dr.refl hh).ext x).2.1
  unfold u__law_wrong_7
  simp only [sRet, sSeq, sNext, sIf, sDrop, sSet, sAsg, sPar, sPar3, sAug, sRaise, dAndV, dOrV, dNotV, dAnd, dOr, dNot, dB, dIf, dOp, dUn, dCB, dVar, dC, dNil, dCons, dTup, dLst, dChain, dCall, gNm, gTp, gsCons, gsNil, DL.gSub, nIsi, dBM, dBM0, dPart, dNoPart, dSl, dInW, dIxW, dNewK, dNewT, dRevL, dRevT, dDPop1, dItems, dLRg, iTupD, iLstD, iStrD, iEnD, iRng1D, iRng2D, oI2, oNeg, List.getElem?_cons_zero, List.getElem?_cons_succ, List.set_cons_zero, List.set_cons_succ, exists_eq_left', exists_eq_left, exists_and_left, exists_eq', and_assoc, Option.some.injEq, List.cons.injEq, D.ty.injEq, D.bl.injEq, D.int.injEq, D.str.injEq, D.tup.injEq, D.ref.injEq, and_true, true_and]
  refine ⟨by rw [sizeLine_eq]; simp, by rw [sizeLine_eq]; simp, by rw [sizeLine_eq]; simp, i_listK (w.ext a _ ea) fun p1 n1 => ⟨by rw [sizeLine_eq]; simp, by rw [sizeLine_eq]; simp, fun p np => ?_⟩⟩
  have h1 : p1 ≠ h := (hd0 w.ext).ne n1
  have x2 := (Ext.new (o := .lst (S.tbl.map fun kv => dK kv.1)) n1).trans (Ext.new (o := .lst [.tup [.int S.many, .ref b, .tup (nI S.good)], .tup [.int S.many, .ref c, .tup (nI S.good)], .tup [.int S.many, .non, .tup (nI S.good)], .tup [.int S.many, .ref p1, .tup (nI S.good)]]) np)
  refine w.add x2 put_same (by omega) (by simp) (fun y hy st' mv => ?_) fun sm' st' w' => wrong_8 hh ok ea hah w' (by simp; omega) hq
  have m1 : st' p1 = some (.lst (S.tbl.map fun kv => dK kv.1)) := mv p1 _ h1 (by rw [put_ne (neq_of put_same np)]; exact put_same)
  simp only [List.mem_cons, List.not_mem_nil, or_false] at hy
  rcases hy with rfl | rfl | rfl | rfl
  · exact w_less ok (mv b _ hbh (x2 b _ eb)) hx
  · exact w_more ok (mv c _ hch (x2 c _ ec))
  · exact w_r .non (good_ty ok) rfl
  · refine w_r (.lst m1) (good_ty ok) ?_
    simp only [rulesF, m1]
theorem wrong_4 {st : Stt} {o8 o9 o10 o11 : Option D} (hh : HandOk st0 h) (ok : S.Ok) (ea : st0 a = some (.dK S.tbl)) (hah : a ≠ h) (hx : x ∈ SGs) (w : WS st0 st h sm n) (hn : n ≤ 40)
    (hq : ∀ d st', Dr h st0 st' → (∀ st2, Mov h st' st2 → NoT st2 d) → rt d st') :
    u__law_wrong_4 Γ ex { nx := nx, rt := rt } [some (.ref h), some (S.d a), some (.int S.many), some (.ref a), some (.tup (nI S.good)), some (.str x), some (.tup (nI (S.row x))), some (.ref sm), o8, o9, o10, o11] st := by
  have hd0 : ∀ {st' : Stt}, Ext st0 st' → HandOk st' h := fun x => ((Dr.refl hh).ext x).2.1
  have ea' := w.ext a _ ea
  unfold u__law_wrong_4
  simp only [sRet, sSeq, sNext, sIf, sDrop, sSet, sAsg, sPar, sPar3, sAug, sRaise, dAndV, dOrV, dNotV, dAnd, dOr, dNot, dB, dIf, dOp, dUn, dCB, dVar, dC, dNil, dCons, dTup, dLst, dChain, dCall, gNm, gTp, gsCons, gsNil, DL.gSub, nIsi, dBM, dBM0, dPart, dNoPart, dSl, dInW, dIxW, dNewK, dNewT, dRevL, dRevT, dDPop1, dItems, dLRg, iTupD, iLstD, iStrD, iEnD, iRng1D, iRng2D, oI2, oNeg, List.getElem?_cons_zero, List.getElem?_cons_succ, List.set_cons_zero, List.set_cons_succ, exists_eq_left', exists_eq_left, exists_and_left, exists_eq', and_assoc, Option.some.injEq, List.cons.injEq, D.ty.injEq, D.bl.injEq, D.int.injEq, D.str.injEq, D.tup.injEq, D.ref.injEq, and_true, true_and]
  refine i_dictD ea' fun b nb => i_dictD (a := a) (by rw [put_ne (neq_of ea' nb)]; exact ea') fun c nc => ?_
  unfold u__law_wrong_5
  simp only [sRet, sSeq, sNext, sIf, sDrop, sSet, sAsg, sPar, sPar3, sAug, sRaise, dAndV, dOrV, dNotV, dAnd, dOr, dNot, dB, dIf, dOp, dUn, dCB, dVar, dC, dNil, dCons, dTup, dLst, dChain, dCall, gNm, gTp, gsCons, gsNil, DL.gSub, nIsi, dBM, dBM0, dPart, dNoPart, dSl, dInW, dIxW, dNewK, dNewT, dRevL, dRevT, dDPop1, dItems, dLRg, iTupD, iLstD, iStrD, iEnD, iRng1D, iRng2D, oI2, oNeg, List.getElem?_cons_zero, List.getElem?_cons_succ, List.set_cons_zero, List.set_cons_succ, exists_eq_left', exists_eq_left, exists_and_left, exists_eq', and_assoc, Option.some.injEq, List.cons.injEq, D.ty.injEq, D.bl.injEq, D.int.injEq, D.str.injEq, D.tup.injEq, D.ref.injEq, and_true, true_and]
  have hbc : b ≠ c := neq_of put_same nc
  have hbh : b ≠ h := (hd0 w.ext).ne nb
  have hch : c ≠ h := (hd0 (w.ext.trans (.new nb))).ne nc
  have eb : put (put st b (.dK S.tbl)) c (.dK S.tbl) b = some (.dK S.tbl) := by rw [put_ne hbc]; exact put_same
  have ec : put (put st b (.dK S.tbl)) c (.dK S.tbl) c = some (.dK S.tbl) := put_same
  have nc0 : st c = none := (Ext.new nb).none nc
  have x1 : Ext st (put (put st b (.dK S.tbl)) c (.dK S.tbl)) := (Ext.new nb).put nc0
  generalize put (put st b (.dK S.tbl)) c (.dK S.tbl) = st1 at eb ec x1 ⊢
  refine ⟨_, eb, _, eb, _, rfl, _, S.tbl_at ok hx, ?_⟩
  unfold u__law_wrong_6
  simp only [sRet, sSeq, sNext, sIf, sDrop, sSet, sAsg, sPar, sPar3, sAug, sRaise, dAndV, dOrV, dNotV, dAnd, dOr, dNot, dB, dIf, dOp, dUn, dCB, dVar, dC, dNil, dCons, dTup, dLst, dChain, dCall, gNm, gTp, gsCons, gsNil, DL.gSub, nIsi, dBM, dBM0, dPart, dNoPart, dSl, dInW, dIxW, dNewK, dNewT, dRevL, dRevT, dDPop1, dItems, dLRg, iTupD, iLstD, iStrD, iEnD, iRng1D, iRng2D, oI2, oNeg, List.getElem?_cons_zero, List.getElem?_cons_succ, List.set_cons_zero, List.set_cons_succ, exists_eq_left', exists_eq_left, exists_and_left, exists_eq', and_assoc, Option.some.injEq, List.cons.injEq, D.ty.injEq, D.bl.injEq, D.int.injEq, D.str.injEq, D.tup.injEq, D.ref.injEq, and_true, true_and]
  refine ⟨by decide, i_setK (kk := .inr "d") (kvs := S.tbl) (by rw [put_ne hbc.symm]; exact ec) rfl (by rw [sizeLine_eq, S.len8 ok]; decide) ?_⟩
  have x2 : Ext st (put (put st1 b (.dK (dropD S.tbl (.inr x)))) c (.dK (putD S.tbl (.inr "d") (.tup [.int 0])))) := (x1.put nb).put nc0
  have eb2 : put (put st1 b (.dK (dropD S.tbl (.inr x)))) c (.dK (putD S.tbl (.inr "d") (.tup [.int 0]))) b = some (.dK (dropD S.tbl (.inr x))) := by rw [put_ne hbc]; exact put_same
  refine wrong_7 hh ok ea hah hx hbh hch eb2 put_same ?_ hn hq
  obtain ⟨x0, nw, xs, e, el, hxs⟩ := w
  exact ⟨x0.trans x2, nw, xs, x2 sm _ e, el, fun d hd st' mv => hxs d hd st' ((Mv2.ext x2).trans mv)⟩
theorem wrong_2 {st : Stt} (hh : HandOk st h) (ok : S.Ok) (ea : st a = some (.dK S.tbl)) (hah : a ≠ h) (hx : x ∈ SGs)
    (hq : ∀ d st', Dr h st st' → (∀ st2, Mov h st' st2 → NoT st2 d) → rt d st') :
    u__law_wrong_2 Γ ex { nx := nx, rt := rt } [some (.ref h), some (S.d a), some (.int S.many), some (.ref a), some (.tup (nI S.good)), some (.str x), none, none, none, none, none, none] st := by
  obtain ⟨hr1, hr2⟩ := row_len ok hx
  obtain ⟨hrow, _, _⟩ := S.row_ok ok hx
  unfold u__law_wrong_2
  simp only [sRet, sSeq, sNext, sIf, sDrop, sSet, sAsg, sPar, sPar3, sAug, sRaise, dAndV, dOrV, dNotV, dAnd, dOr, dNot, dB, dIf, dOp, dUn, dCB, dVar, dC, dNil, dCons, dTup, dLst, dChain, dCall, gNm, gTp, gsCons, gsNil, DL.gSub, nIsi, dBM, dBM0, dPart, dNoPart, dSl, dInW, dIxW, dNewK, dNewT, dRevL, dRevT, dDPop1, dItems, dLRg, iTupD, iLstD, iStrD, iEnD, iRng1D, iRng2D, oI2, oNeg, List.getElem?_cons_zero, List.getElem?_cons_succ, List.set_cons_zero, List.set_cons_succ, exists_eq_left', exists_eq_left, exists_and_left, exists_eq', and_assoc, Option.some.injEq, List.cons.injEq, D.ty.injEq, D.bl.injEq, D.int.injEq, D.str.injEq, D.tup.injEq, D.ref.injEq, and_true, true_and]
  refine i_ixK ea rfl (S.tbl_at ok hx) ⟨by decide, fun sm ns => ?_⟩
  have w0 : WS st (put st sm (.lst [])) h sm 0 := ⟨.new ns, ns, [], put_same, rfl, fun d hd => by cases hd⟩
  unfold u__law_wrong_3
  simp only [sSeq, sFor]
  simp only [sRet, sSeq, sNext, sIf, sDrop, sSet, sAsg, sPar, sPar3, sAug, sRaise, dAndV, dOrV, dNotV, dAnd, dOr, dNot, dB, dIf, dOp, dUn, dCB, dVar, dC, dNil, dCons, dTup, dLst, dChain, dCall, gNm, gTp, gsCons, gsNil, DL.gSub, nIsi, dBM, dBM0, dPart, dNoPart, dSl, dInW, dIxW, dNewK, dNewT, dRevL, dRevT, dDPop1, dItems, dLRg, iTupD, iLstD, iStrD, iEnD, iRng1D, iRng2D, oI2, oNeg, List.getElem?_cons_zero, List.getElem?_cons_succ, List.set_cons_zero, List.set_cons_succ, exists_eq_left', exists_eq_left, exists_and_left, exists_eq', and_assoc, Option.some.injEq, List.cons.injEq, D.ty.injEq, D.bl.injEq, D.int.injEq, D.str.injEq, D.tup.injEq, D.ref.injEq, and_true, true_and]
  have hnl : (nI (S.row x)).length = (S.row x).length := by unfold nI; simp
  refine i_slT ⟨by decide, i_addT (by rw [sizeLine_eq, hnl]; simp; omega) (i_slT ⟨by rw [sizeLine_eq]; simp, ?_⟩)⟩
  rw [cut_last]
  have hdl : (nI (S.row x)).dropLast.length ≤ 125 := by rw [List.length_dropLast, hnl]; omega
  refine i_addT (by rw [sizeLine_eq]; simp; omega) (i_slT ⟨by decide, ?_⟩)
  rw [cut_last]
  refine i_addT (by rw [sizeLine_eq]; simp; omega) (i_slT ⟨by decide, ?_⟩)
  rw [cut_last]
  refine i_addT (by rw [sizeLine_eq]; simp; omega) (i_listT fun lp nl => ⟨by rw [sizeLine_eq]; simp, ?_⟩)
  have xl : Ext (put st sm (.lst [])) (put (put st sm (.lst [])) lp (.lst (nI (S.row x)))) := .new nl
  have hls : lp ≠ sm := (neq_of put_same nl).symm
  have hlh : lp ≠ h := ((Dr.refl hh).ext (.new ns)).2.1.ne nl
  have w1 : WS st (put (put st sm (.lst [])) lp (.lst (nI (S.row x)))) h sm 0 := ⟨(Ext.new ns).trans xl, ns, [], by rw [put_ne hls.symm]; exact put_same, rfl, fun d hd => by cases hd⟩
  have tyi : ∀ {st' : Stt} (d : D), Ty st' d → Ty st' (.tup ((nI (S.row x)).dropLast ++ [d])) := fun d hd => .tup (by simp; omega) fun y hy => by
    rcases List.mem_append.mp hy with hy | hy
    · have := List.dropLast_subset _ hy
      unfold nI at this
      obtain ⟨n, _, rfl⟩ := List.mem_map.mp this
      exact .int
    · rw [List.mem_singleton.mp hy]; exact hd
  refine wrong_loop (Γ := Γ) (stL := put (put st sm (.lst [])) lp (.lst (nI (S.row x)))) (fun _ => by first | trivial | rfl) hh ok ea hx _ 0 _ none none (fun o ho => ?_) .refl w1 (by simp) fun st' o8 o9 w' => wrong_4 hh ok ea hah hx w' (by simp) hq
  simp only [List.mem_cons, List.not_mem_nil, or_false] at ho
  rcases ho with rfl | rfl | rfl | rfl | rfl | rfl | rfl
  · refine ⟨fun st' mv => .tup (by omega) fun y hy => ?_, rowF_len (by rw [List.length_dropLast, hnl, hrow]; omega)⟩
    have := List.dropLast_subset _ hy
    unfold nI at this
    obtain ⟨n, _, rfl⟩ := List.mem_map.mp this
    exact .int
  · refine ⟨fun st' mv => ?_, rowF_len (by rw [List.length_append, hnl, hrow]; simp)⟩
    have : nI (S.row x) ++ [D.int 0] = nI (S.row x ++ [0]) := by unfold nI; simp
    rw [this]
    exact ty_ints (by simp; omega)
  · exact ⟨fun st' mv => tyi _ .int, rowF_bad (d := .int S.many) (by simp [inR]; omega) (by simp)⟩
  · exact ⟨fun st' mv => tyi _ .bl, rowF_bad (d := .bl false) rfl (by simp)⟩
  · exact ⟨fun st' mv => tyi _ .int, rowF_bad (d := .int (-1)) (by simp [inR]) (by simp)⟩
  · exact ⟨fun st' mv => .lst (mv lp _ hlh hls put_same), rfl⟩
  · exact ⟨fun st' mv => .non, rfl⟩
end
theorem pure__law_wrong {Γ : Gn} {ds : List D} {st : Stt} {q : DQ} {ex : DX} (h : sp__law_wrong Γ ds st q ex) : t__law_wrong Γ (fun x _ st => ex x st) { nx := fun _ st' => q .non st', rt := q } (dstart N__law_wrong ds) st := by
  obtain ⟨h, S, a, rfl, hah, hh, ⟨ok, ea⟩, hq⟩ := h
  show t__law_wrong Γ _ _ [some (.ref h), some (S.d a), none, none, none, none, none, none, none, none, none, none] st
  unfold t__law_wrong
  simp only [sRet, sSeq, sNext, sIf, sDrop, sSet, sAsg, sPar, sPar3, sAug, sRaise, dAndV, dOrV, dNotV, dAnd, dOr, dNot, dB, dIf, dOp, dUn, dCB, dVar, dC, dNil, dCons, dTup, dLst, dChain, dCall, gNm, gTp, gsCons, gsNil, DL.gSub, nIsi, dBM, dBM0, dPart, dNoPart, dSl, dInW, dIxW, dNewK, dNewT, dRevL, dRevT, dDPop1, dItems, dLRg, iTupD, iLstD, iStrD, iEnD, iRng1D, iRng2D, oI2, oNeg, List.getElem?_cons_zero, List.getElem?_cons_succ, List.set_cons_zero, List.set_cons_succ, exists_eq_left', exists_eq_left, exists_and_left, exists_eq', and_assoc, Option.some.injEq, List.cons.injEq, D.ty.injEq, D.bl.injEq, D.int.injEq, D.str.injEq, D.tup.injEq, D.ref.injEq, and_true, true_and]
  refine ⟨_, rfl, rfl, _, _, rfl, _, _, rfl, _, _, rfl, rfl, ?_⟩
  unfold u__law_wrong_1
  simp only [sRet, sSeq, sNext, sIf, sDrop, sSet, sAsg, sPar, sPar3, sAug, sRaise, dAndV, dOrV, dNotV, dAnd, dOr, dNot, dB, dIf, dOp, dUn, dCB, dVar, dC, dNil, dCons, dTup, dLst, dChain, dCall, gNm, gTp, gsCons, gsNil, DL.gSub, nIsi, dBM, dBM0, dPart, dNoPart, dSl, dInW, dIxW, dNewK, dNewT, dRevL, dRevT, dDPop1, dItems, dLRg, iTupD, iLstD, iStrD, iEnD, iRng1D, iRng2D, oI2, oNeg, List.getElem?_cons_zero, List.getElem?_cons_succ, List.set_cons_zero, List.set_cons_succ, exists_eq_left', exists_eq_left, exists_and_left, exists_eq', and_assoc, Option.some.injEq, List.cons.injEq, D.ty.injEq, D.bl.injEq, D.int.injEq, D.str.injEq, D.tup.injEq, D.ref.injEq, and_true, true_and]
  refine ⟨by rw [sizeLine_eq]; simp, fun p np => ?_⟩
  have d1 := Dr.put (o := .lst [D.str "a", .str "b", .str "c", .str "f", .str "g", .str "h", .str "s", .str "t"]) hh np
  refine ⟨h, p, _, rfl, hh.ne np, put_same, by simp, by simp, d1.2.1, fun d st1 hd dr => ?_⟩
  have hx : ∃ x, d = .str x ∧ x ∈ SGs := by
    have : d ∈ SGs.map D.str := hd
    obtain ⟨x, hx, rfl⟩ := List.mem_map.mp this
    exact ⟨x, rfl, hx⟩
  obtain ⟨x, rfl, hx⟩ := hx
  have d2 := d1.trans dr
  exact wrong_2 d2.2.1 ok (d2.1 a _ hah ea) hah hx fun d st' d3 h1 => hq d st' (d2.trans d3) h1
end K73
/-! K17: _law_no_tree, _law_are_trees_right. -/
namespace K73
open PySem PySem.Spec L2 DL
theorem treeB_no {d : D} (h : formD d = false) : treeB d = false := by
  show (if 0 + 1 > 300 ∨ 1 > 40 ∨ formD d = false then false else _) = false
  rw [if_pos (.inr (.inr h))]
theorem treeB_kid {d k : D} (h : kidsD d = [k]) (hk : formD k = false) : treeB d = false := by
  show (if 0 + 1 > 300 ∨ 1 > 40 ∨ formD d = false then false else wlk 301 1 (((kidsD d).map fun p => (p, 1 + 1)).reverse ++ [])) = false
  split
  · rfl
  · rw [h]
    show (if 1 + 1 > 300 ∨ 1 + 1 > 40 ∨ formD k = false then false else _) = false
    rw [if_pos (.inr (.inr hk))]
def noTrees (p p1 : Addr) : List D := [.non, .int 5, .tup [], .str "a", .tup [.str "a", .tup [.str "a"]], .tup [.str "f", .tup [.str "a"]], .ref p, .tup [.str "d"], .tup [.str "s", .ref p1], .tup [.str "s", .str "a"], .tup [.str "?", .int 0, .int 0]]
def noTrees2 : List D := [.tup [.str "?"], .tup [.str "A"], .tup [.str "h", .tup [.str "a"], .tup [.str "a"]], .tup [.tup [.str "a"]], .tup [.str "s", .non]]
theorem no_1 {st : Stt} {p p1 : Addr} (e : st p = some (.lst [.str "a"])) (e1 : st p1 = some (.lst [.str "a"])) {d : D} (hd : d ∈ noTrees p p1) : Ty st d ∧ treeB d = false := by
  simp only [noTrees, List.mem_cons, List.not_mem_nil, or_false] at hd
  rcases hd with rfl | rfl | rfl | rfl | rfl | rfl | rfl | rfl | rfl | rfl | rfl
  · exact ⟨.non, treeB_no rfl⟩
  · exact ⟨.int, treeB_no rfl⟩
  · exact ⟨.tup (by simp) (fun d hd => nomatch hd), treeB_no rfl⟩
  · exact ⟨.str, treeB_no rfl⟩
  · exact ⟨ty2 .str (ty1 .str), treeB_no (by decide +kernel)⟩
  · exact ⟨ty2 .str (ty1 .str), treeB_no (by decide +kernel)⟩
  · exact ⟨.lst e, treeB_no rfl⟩
  · exact ⟨ty1 .str, treeB_no (by decide +kernel)⟩
  · exact ⟨ty2 .str (.lst e1), treeB_kid rfl rfl⟩
  · exact ⟨ty2 .str .str, treeB_kid rfl rfl⟩
  · exact ⟨ty3 .str .int .int, treeB_no (by decide +kernel)⟩
theorem no_2 {st : Stt} {d : D} (hd : d ∈ noTrees2) : Ty st d ∧ treeB d = false := by
  simp only [noTrees2, List.mem_cons, List.not_mem_nil, or_false] at hd
  rcases hd with rfl | rfl | rfl | rfl | rfl
  · exact ⟨ty1 .str, treeB_no (by decide +kernel)⟩
  · exact ⟨ty1 .str, treeB_no (by decide +kernel)⟩
  · exact ⟨ty3 .str (ty1 .str) (ty1 .str), treeB_no (by decide +kernel)⟩
  · exact ⟨ty1 (ty1 .str), treeB_no rfl⟩
  · exact ⟨ty2 .str .non, treeB_kid rfl rfl⟩
theorem pure__law_no_tree {Γ : Gn} {ds : List D} {st : Stt} {q : DQ} {ex : DX} (h : sp__law_no_tree Γ ds st q ex) : t__law_no_tree Γ (fun x _ st => ex x st) { nx := fun _ st' => q .non st', rt := q } (dstart N__law_no_tree ds) st := by
  obtain ⟨h, rfl, hh, hq⟩ := h
  show t__law_no_tree Γ _ _ [some (.ref h), none] st
  unfold t__law_no_tree
  simp only [sRet, sSeq, sNext, sIf, sDrop, sSet, sAsg, sPar, sPar3, sAug, sRaise, dAndV, dOrV, dNotV, dAnd, dOr, dNot, dB, dIf, dOp, dUn, dCB, dVar, dC, dNil, dCons, dTup, dLst, dChain, dCall, gNm, gTp, gsCons, gsNil, DL.gSub, nIsi, dBM, dBM0, dPart, dNoPart, dSl, dInW, dIxW, dNewK, dNewT, dRevL, dRevT, dDPop1, dItems, dLRg, iTupD, iLstD, iStrD, iEnD, iRng1D, iRng2D, oI2, oNeg, List.getElem?_cons_zero, List.getElem?_cons_succ, List.set_cons_zero, List.set_cons_succ, exists_eq_left', exists_eq_left, exists_and_left, exists_eq', and_assoc, Option.some.injEq, List.cons.injEq, D.ty.injEq, D.bl.injEq, D.int.injEq, D.str.injEq, D.tup.injEq, D.ref.injEq, and_true, true_and]
  have L : ∀ {n : Nat}, n ≤ 100 → n ≤ sizeLine := fun h => by rw [sizeLine_eq]; omega
  refine ⟨by decide, by decide, by decide, by decide, by decide, by decide, fun p np => ⟨by decide, by decide, fun p1 np1 => ⟨L (by simp), by decide, by decide, L (by simp), fun p2 np2 => ?_⟩⟩⟩
  have d1 := Dr.put (o := .lst [D.str "a"]) hh np
  have d2 := d1.new hh (o := .lst [D.str "a"]) (d1.none np1)
  have d3 := d2.new hh (o := .lst (noTrees p p1)) (d2.none np2)
  have hp := hh.ne np
  have hp1 := hh.ne (d1.none np1)
  have hp2 := hh.ne (d2.none np2)
  have e1 : put (put (put st p (.lst [D.str "a"])) p1 (.lst [D.str "a"])) p2 (.lst (noTrees p p1)) p1 = some (.lst [D.str "a"]) := by rw [put_ne (neq_of put_same np2)]; exact put_same
  have e0 : put (put (put st p (.lst [D.str "a"])) p1 (.lst [D.str "a"])) p2 (.lst (noTrees p p1)) p = some (.lst [D.str "a"]) := by
    have : put (put st p (.lst [D.str "a"])) p1 (.lst [D.str "a"]) p = some (.lst [D.str "a"]) := by rw [put_ne (neq_of put_same np1)]; exact put_same
    rw [put_ne (neq_of this np2)]
    exact this
  have e2 : put (put (put st p (.lst [D.str "a"])) p1 (.lst [D.str "a"])) p2 (.lst (noTrees p p1)) p2 = some (.lst (noTrees p p1)) := put_same
  change u__law_no_tree_1 Γ _ _ _ (put (put (put st p (.lst [D.str "a"])) p1 (.lst [D.str "a"])) p2 (.lst (noTrees p p1)))
  generalize put (put (put st p (.lst [D.str "a"])) p1 (.lst [D.str "a"])) p2 (.lst (noTrees p p1)) = st3 at d3 e0 e1 e2 ⊢
  unfold u__law_no_tree_1
  simp only [sRet, sSeq, sNext, sIf, sDrop, sSet, sAsg, sPar, sPar3, sAug, sRaise, dAndV, dOrV, dNotV, dAnd, dOr, dNot, dB, dIf, dOp, dUn, dCB, dVar, dC, dNil, dCons, dTup, dLst, dChain, dCall, gNm, gTp, gsCons, gsNil, DL.gSub, nIsi, dBM, dBM0, dPart, dNoPart, dSl, dInW, dIxW, dNewK, dNewT, dRevL, dRevT, dDPop1, dItems, dLRg, iTupD, iLstD, iStrD, iEnD, iRng1D, iRng2D, oI2, oNeg, List.getElem?_cons_zero, List.getElem?_cons_succ, List.set_cons_zero, List.set_cons_succ, exists_eq_left', exists_eq_left, exists_and_left, exists_eq', and_assoc, Option.some.injEq, List.cons.injEq, D.ty.injEq, D.bl.injEq, D.int.injEq, D.str.injEq, D.tup.injEq, D.ref.injEq, and_true, true_and]
  refine ⟨by decide, by decide, by decide, by decide, by decide, by decide, by decide, by decide, by decide, fun p3 np3 => ?_⟩
  refine i_addL (xs := noTrees p p1) (ys := noTrees2) (by rw [put_ne (neq_of e2 np3)]; exact e2) put_same (by rw [sizeLine_eq]; simp [noTrees, noTrees2]) fun p4 np4 => ?_
  have x4 : Ext st3 (put (put st3 p3 (.lst noTrees2)) p4 (.lst (noTrees p p1 ++ noTrees2))) := (Ext.new np3).trans (.new np4)
  have e4 : put (put st3 p3 (.lst noTrees2)) p4 (.lst (noTrees p p1 ++ noTrees2)) p4 = some (.lst (noTrees p p1 ++ noTrees2)) := put_same
  have d4 := d3.ext x4
  have hp4 := hh.ne ((d3.ext (.new np3)).none np4)
  change u__law_no_tree_2 Γ _ _ _ (put (put st3 p3 (.lst noTrees2)) p4 (.lst (noTrees p p1 ++ noTrees2)))
  generalize put (put st3 p3 (.lst noTrees2)) p4 (.lst (noTrees p p1 ++ noTrees2)) = st4 at x4 e4 d4 ⊢
  unfold u__law_no_tree_2
  simp only [sRet, sSeq, sNext, sIf, sDrop, sSet, sAsg, sPar, sPar3, sAug, sRaise, dAndV, dOrV, dNotV, dAnd, dOr, dNot, dB, dIf, dOp, dUn, dCB, dVar, dC, dNil, dCons, dTup, dLst, dChain, dCall, gNm, gTp, gsCons, gsNil, DL.gSub, nIsi, dBM, dBM0, dPart, dNoPart, dSl, dInW, dIxW, dNewK, dNewT, dRevL, dRevT, dDPop1, dItems, dLRg, iTupD, iLstD, iStrD, iEnD, iRng1D, iRng2D, oI2, oNeg, List.getElem?_cons_zero, List.getElem?_cons_succ, List.set_cons_zero, List.set_cons_succ, exists_eq_left', exists_eq_left, exists_and_left, exists_eq', and_assoc, Option.some.injEq, List.cons.injEq, D.ty.injEq, D.bl.injEq, D.int.injEq, D.str.injEq, D.tup.injEq, D.ref.injEq, and_true, true_and]
  refine ⟨h, 41, rfl, by decide, by decide, d4.2.1, fun t st5 ht hd41 hs41 d5 => ⟨h, 9, rfl, by decide, by decide, d5.2.1, fun u st6 hu hd9 hs9 d6 => ⟨L (by simp), fun p7 np7 => ?_⟩⟩⟩
  have d56 := d5.trans d6
  have e6 : st6 p4 = some (.lst (noTrees p p1 ++ noTrees2)) := d56.1 p4 _ hp4 e4
  refine i_addL (xs := noTrees p p1 ++ noTrees2) (ys := [t.d, u.d]) (by rw [put_ne (neq_of e6 np7)]; exact e6) put_same (by rw [sizeLine_eq]; simp [noTrees, noTrees2]) fun p8 np8 => ?_
  have x8 : Ext st6 (put (put st6 p7 (.lst [t.d, u.d])) p8 (.lst (noTrees p p1 ++ noTrees2 ++ [t.d, u.d]))) := (Ext.new np7).trans (.new np8)
  have d8 := (d4.trans d56).ext x8
  have hp8 := hh.ne (((d4.trans d56).ext (.new np7)).none np8)
  refine ⟨h, p8, _, rfl, hp8, put_same, by simp [noTrees], by simp [noTrees, noTrees2], d8.2.1, fun d st9 hd d9 => ?_⟩
  have d10 := d8.trans d9
  have f0 : st9 p = some (.lst [D.str "a"]) := d9.1 p _ hp (x8 p _ (d56.1 p _ hp (x4 p _ e0)))
  have f1 : st9 p1 = some (.lst [D.str "a"]) := d9.1 p1 _ hp1 (x8 p1 _ (d56.1 p1 _ hp1 (x4 p1 _ e1)))
  have key : Ty st9 d ∧ treeB d = false := by
    rcases List.mem_append.mp hd with hd | hd
    · rcases List.mem_append.mp hd with hd | hd
      · exact no_1 f0 f1 hd
      · exact no_2 hd
    · simp only [List.mem_cons, List.not_mem_nil, or_false] at hd
      rcases hd with rfl | rfl
      · refine ⟨t.ty, ?_⟩
        cases e : treeB t.d with
        | false => rfl
        | true => have := (treeB_iff ht).mp e; omega
      · refine ⟨u.ty, ?_⟩
        cases e : treeB u.d with
        | false => rfl
        | true =>
          have := (treeB_iff hu).mp e
          have h512 : (2 : Nat) ^ 9 = 512 := by decide
          omega
  exact hq d st9 d10 key.1 key.2
/-! ### the other type -/
theorem inc_eq : ∀ {xs ys : List Int}, xs.Pairwise (· < ·) → ys.Pairwise (· < ·) → (∀ n, n ∈ xs ↔ n ∈ ys) → xs = ys
  | [], [], _, _, _ => rfl
  | [], y :: ys, _, _, h => by have := (h y).mpr List.mem_cons_self; cases this
  | x :: xs, [], _, _, h => by have := (h x).mp List.mem_cons_self; cases this
  | x :: xs, y :: ys, hx, hy, h => by
    rw [List.pairwise_cons] at hx hy
    have e : x = y := by
      rcases List.mem_cons.mp ((h x).mp List.mem_cons_self) with e | h1
      · exact e
      · rcases List.mem_cons.mp ((h y).mpr List.mem_cons_self) with e | h2
        · exact e.symm
        · have := hx.1 y h2
          have := hy.1 x h1
          omega
    subst e
    rw [inc_eq hx.2 hy.2 fun n => ?_]
    constructor
    · intro hn
      rcases List.mem_cons.mp ((h n).mp (List.mem_cons_of_mem _ hn)) with e | hn'
      · subst e; have := hx.1 n hn; omega
      · exact hn'
    · intro hn
      rcases List.mem_cons.mp ((h n).mpr (List.mem_cons_of_mem _ hn)) with e | hn'
      · subst e; have := hy.1 n hn; omega
      · exact hn'
theorem range_inc (m : Nat) (f : Int → Bool) : (((List.range m).map fun i => ((i : Nat) : Int)).filter f).Pairwise (· < ·) := by
  have hp : ((List.range m).map fun i => ((i : Nat) : Int)).Pairwise (· < ·) := by
    rw [List.pairwise_map]
    exact List.pairwise_lt_range.imp fun h => by omega
  exact hp.sublist List.filter_sublist
theorem range_mem {m : Nat} {n : Int} : n ∈ ((List.range m).map fun i => ((i : Nat) : Int)) ↔ 0 ≤ n ∧ n < (m : Int) := by
  rw [List.mem_map]
  constructor
  · rintro ⟨i, hi, rfl⟩
    have := List.mem_range.mp hi
    omega
  · intro h
    exact ⟨n.toNat, List.mem_range.mpr (by omega), by omega⟩
section
variable {S : Srt} (ok : S.Ok)
theorem other_good {n : Int} : n ∈ S.other.good ↔ (0 ≤ n ∧ n < (S.many : Int)) ∧ n ∉ S.good := by
  show n ∈ (((List.range S.many).map fun i => ((i : Nat) : Int)).filter fun i => decide (i ∉ S.good)) ↔ _
  rw [List.mem_filter, range_mem]
  simp
theorem lookup_map {f : Str → List Int} {x : Str} : ∀ {l : List Str}, x ∈ l → (l.map fun y => (y, f y)).lookup x = some (f x)
  | y :: l, h => by
    rw [List.map_cons, List.lookup_cons]
    by_cases e : x = y
    · subst e; simp
    · have : (x == y) = false := by simpa using e
      rw [this]
      rcases List.mem_cons.mp h with z | h
      · exact absurd z e
      · exact lookup_map h
theorem other_row {x : Str} (hx : x ∈ SGs) : S.other.row x = S.row x := by
  have : S.other.kvs.lookup x = some (S.row x) := lookup_map hx
  unfold Srt.row at this ⊢
  rw [this] <;> rfl
include ok
theorem other_ok : S.other.Ok where
  m1 := ok.m1
  m5 := ok.m5
  keys := by
    show ((SGs.map fun x => (x, S.row x)).map (·.1)).Perm SGs
    rw [List.map_map]
    have : (fun x : Str × List Int => x.1) ∘ (fun x => (x, S.row x)) = id := rfl
    rw [this, List.map_id]
  rows := fun p hp => by
    have hp : p ∈ SGs.map fun x => (x, S.row x) := hp
    obtain ⟨x, hx, rfl⟩ := List.mem_map.mp hp
    obtain ⟨h1, h2, _⟩ := S.row_ok ok hx
    exact ⟨h1, h2⟩
  good := fun n hn => (other_good.mp hn).1
  inc := range_inc _ _
theorem other_num {t : Tr} (ht : t.ok) : num S.other t = num S t := by
  induction t using Tr.ind with
  | h t ih =>
    obtain ⟨h1, h2⟩ := Tr.ok_kids ht
    obtain ⟨hx, _⟩ := rk_of h1
    rw [num_step ok t, num_step (other_ok ok) t, other_row hx]
    have : t.kids.map (num S.other) = t.kids.map (num S) := List.map_congr_left fun u hu => ih u hu (h2 u hu)
    rw [this]
    rfl
theorem other_other_good : S.other.other.good = S.good := by
  refine inc_eq (range_inc _ _) ok.inc fun n => ?_
  rw [other_good, other_good]
  have hm : S.other.many = S.many := rfl
  rw [hm]
  constructor
  · rintro ⟨h1, h2⟩
    by_cases hn : n ∈ S.good
    · exact hn
    · exact absurd ⟨h1, hn⟩ h2
  · intro hn
    exact ⟨ok.good n hn, fun h => h.2 hn⟩
end
theorem Tr.size_deep : ∀ {t : Tr} {n : Nat}, t.deep ≤ n → 2 * t.size + 1 ≤ 3 ^ n
  | .a0 _, n, h => by
    simp only [Tr.deep] at h
    have : 3 ^ 1 ≤ 3 ^ n := Nat.pow_le_pow_right (by decide) h
    simp only [Tr.size]
    omega
  | .a1 _ t, n, h => by
    simp only [Tr.deep] at h
    obtain ⟨m, rfl⟩ : ∃ m, n = m + 1 := ⟨n - 1, by omega⟩
    have := Tr.size_deep (t := t) (n := m) (by omega)
    simp only [Tr.size, Nat.pow_succ]
    omega
  | .a2 _ t u, n, h => by
    simp only [Tr.deep] at h
    obtain ⟨m, rfl⟩ : ∃ m, n = m + 1 := ⟨n - 1, by omega⟩
    have := Tr.size_deep (t := t) (n := m) (by omega)
    have := Tr.size_deep (t := u) (n := m) (by omega)
    simp only [Tr.size, Nat.pow_succ]
    omega
  | .a3 _ t u v, n, h => by
    simp only [Tr.deep] at h
    obtain ⟨m, rfl⟩ : ∃ m, n = m + 1 := ⟨n - 1, by omega⟩
    have := Tr.size_deep (t := t) (n := m) (by omega)
    have := Tr.size_deep (t := u) (n := m) (by omega)
    have := Tr.size_deep (t := v) (n := m) (by omega)
    simp only [Tr.size, Nat.pow_succ]
    omega
section
variable {Γ : Gn} {ex : DXE} {N : DN} {h a : Addr} {S : Srt}
theorem i_reprI {st : Stt} {q : DQ} {i : Int} (hi : i.natAbs.log2 < 1920) (hq : q (.str (toString i)) st) : nRepr [.int i] st q := .inl ⟨i, rfl, hi, hq⟩
theorem are_body {st : Stt} {o2 o3 o5 : Option D} {t : Tr} (ok : S.Ok) (ea : st a = some (.dK S.tbl)) (hok : t.ok) (h300 : t.size ≤ 300) (h40 : t.deep ≤ 40) (hq : ∀ st' o5, Ext st st' → N.nx [some (.ref h), some (S.d a), o2, o3, some t.d, o5] st') :
    b__law_are_trees_right_1 Γ ex N [some (.ref h), some (S.d a), o2, o3, some t.d, o5] st := by
  have hn := num_ok ok hok
  have h5 := ok.m5
  have hl : (num S t).natAbs.log2 < 1920 := by
    have h1 : (num S t).natAbs < 8 := by omega
    rcases Nat.eq_zero_or_pos (num S t).natAbs with z | z
    · rw [z]; decide
    · have := (Nat.log2_lt (by omega)).mpr (show (num S t).natAbs < 2 ^ 3 from h1)
      omega
  unfold b__law_are_trees_right_1
  simp only [sRet, sSeq, sNext, sIf, sDrop, sSet, sAsg, sPar, sPar3, sAug, sRaise, dAndV, dOrV, dNotV, dAnd, dOr, dNot, dB, dIf, dOp, dUn, dCB, dVar, dC, dNil, dCons, dTup, dLst, dChain, dCall, gNm, gTp, gsCons, gsNil, DL.gSub, nIsi, dBM, dBM0, dPart, dNoPart, dSl, dInW, dIxW, dNewK, dNewT, dRevL, dRevT, dDPop1, dItems, dLRg, iTupD, iLstD, iStrD, iEnD, iRng1D, iRng2D, oI2, oNeg, List.getElem?_cons_zero, List.getElem?_cons_succ, List.set_cons_zero, List.set_cons_succ, exists_eq_left', exists_eq_left, exists_and_left, exists_eq', and_assoc, Option.some.injEq, List.cons.injEq, D.ty.injEq, D.bl.injEq, D.int.injEq, D.str.injEq, D.tup.injEq, D.ref.injEq, and_true, true_and]
  refine ⟨S, a, t, rfl, ⟨ok, ea⟩, hok, h40, fun st1 x1 => ?_⟩
  unfold u__law_are_trees_right_1_1
  simp only [sRet, sSeq, sNext, sIf, sDrop, sSet, sAsg, sPar, sPar3, sAug, sRaise, dAndV, dOrV, dNotV, dAnd, dOr, dNot, dB, dIf, dOp, dUn, dCB, dVar, dC, dNil, dCons, dTup, dLst, dChain, dCall, gNm, gTp, gsCons, gsNil, DL.gSub, nIsi, dBM, dBM0, dPart, dNoPart, dSl, dInW, dIxW, dNewK, dNewT, dRevL, dRevT, dDPop1, dItems, dLRg, iTupD, iLstD, iStrD, iEnD, iRng1D, iRng2D, oI2, oNeg, List.getElem?_cons_zero, List.getElem?_cons_succ, List.set_cons_zero, List.set_cons_succ, exists_eq_left', exists_eq_left, exists_and_left, exists_eq', and_assoc, Option.some.injEq, List.cons.injEq, D.ty.injEq, D.bl.injEq, D.int.injEq, D.str.injEq, D.tup.injEq, D.ref.injEq, and_true, true_and]
  refine .inr (.inr ⟨S, a, t, rfl, ⟨ok, x1 a _ ea⟩, hok, h300, h40, fun st2 x2 => i_reprI hl (i_reprI hl (i_eqS (r := true) (by simp [eqS]) ⟨_, rfl, ?_⟩))⟩)
  rw [if_neg (by decide)]
  refine .inr (.inr ⟨S, a, t, rfl, ⟨ok, (x1.trans x2) a _ ea⟩, hok, h300, h40, fun st3 x3 => i_ixT (i := 2) rfl (i_inT rfl (flat_ints _) ?_)⟩)
  rw [any_ints, Bool.false_xor]
  refine ⟨_, _, rfl, _, rfl, ?_⟩
  rw [if_neg (by simp)]
  have x123 := (x1.trans x2).trans x3
  unfold u__law_are_trees_right_1_2
  simp only [sRet, sSeq, sNext, sIf, sDrop, sSet, sAsg, sPar, sPar3, sAug, sRaise, dAndV, dOrV, dNotV, dAnd, dOr, dNot, dB, dIf, dOp, dUn, dCB, dVar, dC, dNil, dCons, dTup, dLst, dChain, dCall, gNm, gTp, gsCons, gsNil, DL.gSub, nIsi, dBM, dBM0, dPart, dNoPart, dSl, dInW, dIxW, dNewK, dNewT, dRevL, dRevT, dDPop1, dItems, dLRg, iTupD, iLstD, iStrD, iEnD, iRng1D, iRng2D, oI2, oNeg, List.getElem?_cons_zero, List.getElem?_cons_succ, List.set_cons_zero, List.set_cons_succ, exists_eq_left', exists_eq_left, exists_and_left, exists_eq', and_assoc, Option.some.injEq, List.cons.injEq, D.ty.injEq, D.bl.injEq, D.int.injEq, D.str.injEq, D.tup.injEq, D.ref.injEq, and_true, true_and]
  refine .inr ⟨S, a, rfl, ⟨ok, x123 a _ ea⟩, fun st4 p x4 np e4 => .inr (.inr ⟨S.other, p, t, rfl, ⟨other_ok ok, e4⟩, hok, h300, h40, fun st5 x5 => i_ixT (i := 2) rfl (i_inT rfl (flat_ints _) ?_)⟩)⟩
  rw [any_ints, Bool.true_xor]
  refine ⟨_, _, rfl, _, rfl, ?_⟩
  have eb : decide (num S.other t ∈ S.other.good) = !decide (num S t ∈ S.good) := by
    rw [other_num ok hok]
    by_cases hm : num S t ∈ S.good
    · simp [hm, other_good]
    · have : num S t ∈ S.other.good := other_good.mpr ⟨hn, hm⟩
      simp [hm, this]
  rw [eb, if_neg (by simp)]
  exact hq st5 _ ((x123.trans x4).trans x5)
end
end K73
/-! K18: _law_are_trees_right, _law_is_other_right. -/
namespace K73
open PySem PySem.Spec L2 DL
section
variable {Γ : Gn} {ex : DXE} {N : DN} {h a : Addr} {S : Srt}
theorem are_loop {chk : Stt → Prop} {stL : Stt} {o2 o3 : Option D} (hc : ∀ st, Ext stL st → chk st) (ok : S.Ok) (ea : stL a = some (.dK S.tbl)) : ∀ (ds : List D) (o4 o5 : Option D) (st : Stt), (∀ d ∈ ds, ∃ t : Tr, d = t.d ∧ t.ok ∧ t.size ≤ 300 ∧ t.deep ≤ 40) → Ext stL st →
    (∀ st' o4 o5, Ext stL st' → N.nx [some (.ref h), some (S.d a), o2, o3, o4, o5] st') →
    runF chk (gNm 4) (b__law_are_trees_right_1 Γ ex) N ds [some (.ref h), some (S.d a), o2, o3, o4, o5] st
  | [], o4, o5, st, _, x, hq => hq st o4 o5 x
  | d :: ds, o4, o5, st, hd, x, hq => by
    obtain ⟨t, rfl, hok, h3, h4⟩ := hd d List.mem_cons_self
    refine are_body (Γ := Γ) (ex := ex) (o5 := o5) ok (x a _ ea) hok h3 h4 fun st' o5 x' => ⟨hc _ (x.trans x'), ?_⟩
    exact are_loop hc ok ea ds _ o5 st' (fun d hd' => hd d (List.mem_cons_of_mem _ hd')) (x.trans x') hq
end
theorem pure__law_are_trees_right {Γ : Gn} {ds : List D} {st : Stt} {q : DQ} {ex : DX} (h : sp__law_are_trees_right Γ ds st q ex) : t__law_are_trees_right Γ (fun x _ st => ex x st) { nx := fun _ st' => q .non st', rt := q } (dstart N__law_are_trees_right ds) st := by
  obtain ⟨h, S, a, rfl, hah, hh, ⟨ok, ea⟩, hq⟩ := h
  show t__law_are_trees_right Γ _ _ [some (.ref h), some (S.d a), none, none, none, none] st
  unfold t__law_are_trees_right
  simp only [sRet, sSeq, sNext, sIf, sDrop, sSet, sAsg, sPar, sPar3, sAug, sRaise, dAndV, dOrV, dNotV, dAnd, dOr, dNot, dB, dIf, dOp, dUn, dCB, dVar, dC, dNil, dCons, dTup, dLst, dChain, dCall, gNm, gTp, gsCons, gsNil, DL.gSub, nIsi, dBM, dBM0, dPart, dNoPart, dSl, dInW, dIxW, dNewK, dNewT, dRevL, dRevT, dDPop1, dItems, dLRg, iTupD, iLstD, iStrD, iEnD, iRng1D, iRng2D, oI2, oNeg, List.getElem?_cons_zero, List.getElem?_cons_succ, List.set_cons_zero, List.set_cons_succ, exists_eq_left', exists_eq_left, exists_and_left, exists_eq', and_assoc, Option.some.injEq, List.cons.injEq, D.ty.injEq, D.bl.injEq, D.int.injEq, D.str.injEq, D.tup.injEq, D.ref.injEq, and_true, true_and]
  simp only [dLc]
  simp only [sRet, sSeq, sNext, sIf, sDrop, sSet, sAsg, sPar, sPar3, sAug, sRaise, dAndV, dOrV, dNotV, dAnd, dOr, dNot, dB, dIf, dOp, dUn, dCB, dVar, dC, dNil, dCons, dTup, dLst, dChain, dCall, gNm, gTp, gsCons, gsNil, DL.gSub, nIsi, dBM, dBM0, dPart, dNoPart, dSl, dInW, dIxW, dNewK, dNewT, dRevL, dRevT, dDPop1, dItems, dLRg, iTupD, iLstD, iStrD, iEnD, iRng1D, iRng2D, oI2, oNeg, List.getElem?_cons_zero, List.getElem?_cons_succ, List.set_cons_zero, List.set_cons_succ, exists_eq_left', exists_eq_left, exists_and_left, exists_eq', and_assoc, Option.some.injEq, List.cons.injEq, D.ty.injEq, D.bl.injEq, D.int.injEq, D.str.injEq, D.tup.injEq, D.ref.injEq, and_true, true_and]
  refine ⟨by decide, by decide, ?_⟩
  refine lcGc (Dr h st) (fun d y => ∃ t : Tr, y = some t.d ∧ t.ok ∧ t.deep ≤ 4) (.refl hh) (fun p st' acc np x => x.new hh np) (by decide) (fun d hd p st' acc np x e K1 K0 h1 _ => ?_) fun ys p st1 fm np x1 e1 => ?_
  · (simp only [CT.dg, dwipe]; simp only [sRet, sSeq, sNext, sIf, sDrop, sSet, sAsg, sPar, sPar3, sAug, sRaise, dAndV, dOrV, dNotV, dAnd, dOr, dNot, dB, dIf, dOp, dUn, dCB, dVar, dC, dNil, dCons, dTup, dLst, dChain, dCall, gNm, gTp, gsCons, gsNil, DL.gSub, nIsi, dBM, dBM0, dPart, dNoPart, dSl, dInW, dIxW, dNewK, dNewT, dRevL, dRevT, dDPop1, dItems, dLRg, iTupD, iLstD, iStrD, iEnD, iRng1D, iRng2D, oI2, oNeg, List.getElem?_cons_zero, List.getElem?_cons_succ, List.set_cons_zero, List.set_cons_succ, exists_eq_left', exists_eq_left, exists_and_left, exists_eq', and_assoc, Option.some.injEq, List.cons.injEq, D.ty.injEq, D.bl.injEq, D.int.injEq, D.str.injEq, D.tup.injEq, D.ref.injEq, and_true, true_and])
    refine ⟨h, 4, rfl, by decide, by decide, x.2.1, fun r st2 r0 r1 d2 => ?_⟩
    refine ⟨h, r.toNat, by rw [show ((r.toNat : Nat) : Int) = r by omega], by omega, by omega, d2.2.1, fun t st3 ht hd3 d3 => ?_⟩
    exact h1 _ st3 ⟨t, rfl, ht, by omega⟩ ((x.trans d2).trans d3) (d3.1 p _ (hh.ne np) (d2.1 p _ (hh.ne np) e))
  · obtain ⟨ts, e2, e3, e4⟩ := fm_trees (P := fun t => t.ok ∧ t.deep ≤ 4) (fun d y h => h) fm
    have hp := hh.ne np
    unfold u__law_are_trees_right_1
    simp only [sSeq, sFor]
    simp only [sRet, sSeq, sNext, sIf, sDrop, sSet, sAsg, sPar, sPar3, sAug, sRaise, dAndV, dOrV, dNotV, dAnd, dOr, dNot, dB, dIf, dOp, dUn, dCB, dVar, dC, dNil, dCons, dTup, dLst, dChain, dCall, gNm, gTp, gsCons, gsNil, DL.gSub, nIsi, dBM, dBM0, dPart, dNoPart, dSl, dInW, dIxW, dNewK, dNewT, dRevL, dRevT, dDPop1, dItems, dLRg, iTupD, iLstD, iStrD, iEnD, iRng1D, iRng2D, oI2, oNeg, List.getElem?_cons_zero, List.getElem?_cons_succ, List.set_cons_zero, List.set_cons_succ, exists_eq_left', exists_eq_left, exists_and_left, exists_eq', and_assoc, Option.some.injEq, List.cons.injEq, D.ty.injEq, D.bl.injEq, D.int.injEq, D.str.injEq, D.tup.injEq, D.ref.injEq, and_true, true_and]
    refine ⟨h, 40, rfl, by decide, by decide, x1.2.1, fun r st2 r0 r1 d2 => i_add ⟨h, (1 + r).toNat, by rw [show (((1 + r).toNat : Nat) : Int) = 1 + r by omega], by omega, by omega, d2.2.1, fun t st3 ht hd3 hs3 d3 => ?_⟩⟩
    refine ⟨h, 8, rfl, by decide, by decide, d3.2.1, fun r2 st4 r20 r21 d4 => i_add ⟨h, (1 + r2).toNat, by rw [show (((1 + r2).toNat : Nat) : Int) = 1 + r2 by omega], by omega, by omega, d4.2.1, fun u st5 hu hd5 hs5 d5 => ?_⟩⟩
    refine ⟨by rw [sizeLine_eq]; simp, fun p2 np2 => ?_⟩
    have d15 := ((d2.trans d3).trans d4).trans d5
    have e5 : st5 p = some (.lst ys) := d15.1 p _ hp e1
    have hl : ys.length = 4 := by rw [e2, List.length_map, e3]; rfl
    refine i_addL (xs := ys) (ys := [t.d, u.d]) (by rw [put_ne (neq_of e5 np2)]; exact e5) put_same (by rw [sizeLine_eq, hl]; simp) fun p3 np3 => ⟨p3, rfl, _, put_same, _, lstAt_some put_same, ?_⟩
    have x6 : Ext st5 (put (put st5 p2 (.lst [t.d, u.d])) p3 (.lst (ys ++ [t.d, u.d]))) := (Ext.new np2).trans (.new np3)
    have d6 := (x1.trans d15).ext x6
    have e6 : put (put st5 p2 (.lst [t.d, u.d])) p3 (.lst (ys ++ [t.d, u.d])) p3 = some (.lst (ys ++ [t.d, u.d])) := put_same
    generalize put (put st5 p2 (.lst [t.d, u.d])) p3 (.lst (ys ++ [t.d, u.d])) = st6 at x6 d6 e6 ⊢
    refine are_loop (Γ := Γ) (stL := st6) (fun st' x => lstAt_some (x p3 _ e6)) ok (d6.1 a _ hah ea) _ none none st6 (fun d hd => ?_) .refl fun st7 o4 o5 x7 => ?_
    · rcases List.mem_append.mp hd with hd | hd
      · rw [e2] at hd
        obtain ⟨v, hv, rfl⟩ := List.mem_map.mp hd
        obtain ⟨h1, h2⟩ := e4 v hv
        have := Tr.size_deep h2
        have e81 : 3 ^ 4 = 81 := by decide
        exact ⟨v, rfl, h1, by omega, by omega⟩
      · simp only [List.mem_cons, List.not_mem_nil, or_false] at hd
        rcases hd with rfl | rfl
        · exact ⟨t, rfl, ht, by omega, by omega⟩
        · refine ⟨u, rfl, hu, ?_, by omega⟩
          have : 2 ^ (1 + r2).toNat ≤ 2 ^ 8 := Nat.pow_le_pow_right (by decide) (by omega)
          have e256 : 2 ^ 8 = 256 := by decide
          omega
    · dsimp only
      unfold u__law_are_trees_right_2
      simp only [sRet, sSeq, sNext, sIf, sDrop, sSet, sAsg, sPar, sPar3, sAug, sRaise, dAndV, dOrV, dNotV, dAnd, dOr, dNot, dB, dIf, dOp, dUn, dCB, dVar, dC, dNil, dCons, dTup, dLst, dChain, dCall, gNm, gTp, gsCons, gsNil, DL.gSub, nIsi, dBM, dBM0, dPart, dNoPart, dSl, dInW, dIxW, dNewK, dNewT, dRevL, dRevT, dDPop1, dItems, dLRg, iTupD, iLstD, iStrD, iEnD, iRng1D, iRng2D, oI2, oNeg, List.getElem?_cons_zero, List.getElem?_cons_succ, List.set_cons_zero, List.set_cons_succ, exists_eq_left', exists_eq_left, exists_and_left, exists_eq', and_assoc, Option.some.injEq, List.cons.injEq, D.ty.injEq, D.bl.injEq, D.int.injEq, D.str.injEq, D.tup.injEq, D.ref.injEq, and_true, true_and]
      exact hq st7 (d6.ext x7)
/-! ### a type, shown -/
def Srt.py (S : Srt) : PyData := .tuple [.int S.many, .dict (S.kvs.map fun p => (.str p.1, .tuple (p.2.map .int))), .tuple (S.good.map .int)]
theorem sh_ints {st : Stt} : ∀ ns : List Int, Shs st (nI ns) (ns.map .int)
  | [] => .nil
  | _ :: ns => .cons .int (sh_ints ns)
theorem sh_rows {st : Stt} : ∀ kvs : List (Str × List Int), Shs st (kvs.map fun p => D.tup (nI p.2)) (kvs.map fun p => PyData.tuple (p.2.map .int))
  | [] => .nil
  | p :: kvs => .cons (.tup (sh_ints p.2)) (sh_rows kvs)
theorem zip_maps {α β γ : Type} (f : α → β) (g : α → γ) : ∀ l : List α, (l.map f).zip (l.map g) = l.map fun x => (f x, g x)
  | [] => rfl
  | x :: l => by rw [List.map_cons, List.map_cons, List.zip_cons_cons, zip_maps f g l] <;> rfl
theorem sh_srt {S : Srt} {st : Stt} {a : Addr} (ea : st a = some (.dK S.tbl)) : Sh st (S.d a) S.py := by
  refine .tup (.cons .int (.cons ?_ (.cons (.tup (sh_ints _)) .nil)))
  have h1 : Shs st (S.tbl.map (·.2)) (S.kvs.map fun p => PyData.tuple (p.2.map .int)) := by
    have : S.tbl.map (·.2) = S.kvs.map fun p => D.tup (nI p.2) := by unfold Srt.tbl; rw [List.map_map] <;> rfl
    rw [this]
    exact sh_rows _
  have h2 := Sh.dK ea h1
  have h3 : (S.tbl.map fun kv => kD kv.1) = S.kvs.map fun p => PyData.str p.1 := by unfold Srt.tbl; rw [List.map_map] <;> rfl
  rw [h3, zip_maps] at h2
  exact h2
theorem small_log {n : Int} (h0 : 0 ≤ n) (h : n < 5) : n.natAbs.log2 ≤ 2 := by
  have h1 : n.natAbs < 8 := by omega
  rcases Nat.eq_zero_or_pos n.natAbs with z | z
  · rw [z]; decide
  · have := (Nat.log2_lt (by omega)).mpr (show n.natAbs < 2 ^ 3 from h1)
    omega
theorem py_ints : ∀ ns : List Int, (∀ n ∈ ns, 0 ≤ n ∧ n < 5) → PyData.leavesShortAll 13 (ns.map .int) = true ∧ PyData.weightAll (ns.map .int) ≤ 4 * ns.length ∧ PyData.showableAll (ns.map .int) = true ∧ PyData.depthAll (ns.map .int) = 0
  | [], _ => ⟨rfl, by simp [PyData.weightAll], rfl, rfl⟩
  | n :: ns, h => by
    obtain ⟨a, b, c, d⟩ := py_ints ns fun m hm => h m (List.mem_cons_of_mem _ hm)
    obtain ⟨h0, h5⟩ := h n List.mem_cons_self
    have hl := small_log h0 h5
    refine ⟨?_, ?_, ?_, ?_⟩
    · simp only [List.map_cons, PyData.leavesShortAll, PyData.leavesShort, a, Bool.and_true, decide_eq_true_eq]
      exact PyData.shown_int_le (by omega)
    · simp only [List.map_cons, PyData.weightAll, PyData.weight, List.length_cons]
      split <;> omega
    · simp only [List.map_cons, PyData.showableAll, PyData.showable, c, Bool.and_true, decide_eq_true_eq]
      omega
    · simp only [List.map_cons, PyData.depthAll, PyData.depth, d]
      rfl
theorem py_kvs : ∀ kvs : List (Str × List Int), (∀ p ∈ kvs, p.1 ∈ SGs ∧ p.2.length ≤ 125 ∧ ∀ n ∈ p.2, 0 ≤ n ∧ n < 5) →
    PyData.leavesShortKv 13 (kvs.map fun p => (.str p.1, .tuple (p.2.map .int))) = true ∧ PyData.weightKv (kvs.map fun p => (.str p.1, .tuple (p.2.map .int))) ≤ 600 * kvs.length ∧ PyData.showableKv (kvs.map fun p => (.str p.1, .tuple (p.2.map .int))) = true ∧ PyData.depthKv (kvs.map fun p => (.str p.1, .tuple (p.2.map .int))) ≤ 1
  | [], _ => ⟨rfl, by simp [PyData.weightKv], rfl, by simp [PyData.depthKv]⟩
  | p :: kvs, h => by
    obtain ⟨a, b, c, d⟩ := py_kvs kvs fun m hm => h m (List.mem_cons_of_mem _ hm)
    obtain ⟨h1, h2, h3⟩ := h p List.mem_cons_self
    obtain ⟨e, f, g, i⟩ := py_ints p.2 h3
    have hs : (p.1.cps.toList.all fun c => decide (c < 16 ^ 8)) = true ∧ p.1.cps.size ≤ 1 := by
      have key : ∀ x ∈ SGs, (x.cps.toList.all fun c => decide (c < 16 ^ 8)) = true ∧ x.cps.size ≤ 1 := by decide +kernel
      exact key _ h1
    refine ⟨?_, ?_, ?_, ?_⟩
    · simp only [List.map_cons, PyData.leavesShortKv, PyData.leavesShort, a, hs.1, e, Bool.and_self]
    · simp only [List.map_cons, PyData.weightKv, PyData.weight, List.length_cons]
      have := hs.2
      omega
    · simp only [List.map_cons, PyData.showableKv, PyData.showable, c, g, Bool.and_self]
    · simp only [List.map_cons, PyData.depthKv, PyData.depth, i]
      omega
section
variable {S : Srt} (ok : S.Ok)
include ok
theorem py_ok : S.py.showable = true ∧ S.py.depth + 1 ≤ 64 ∧ S.py.shown.length ≤ sizeLine := by
  have h5 := ok.m5
  have h1 := ok.m1
  obtain ⟨a, b, c, d⟩ := py_kvs S.kvs fun p hp => by
    have hx : p.1 ∈ SGs := ok.keys.mem_iff.mp (List.mem_map.mpr ⟨p, hp, rfl⟩)
    obtain ⟨r1, r2⟩ := ok.rows p hp
    have := (row_len ok hx).1
    obtain ⟨r3, _, _⟩ := S.row_ok ok hx
    exact ⟨hx, by omega, fun n hn => by have := r2 n hn; omega⟩
  obtain ⟨e, f, g, i⟩ := py_ints S.good fun n hn => by have := ok.good n hn; omega
  have hm := small_log (n := (S.many : Int)) (by omega)
  have hml : ((S.many : Int)).natAbs.log2 ≤ 2 := by
    have h1 : ((S.many : Int)).natAbs < 8 := by omega
    have := (Nat.log2_lt (by omega)).mpr (show ((S.many : Int)).natAbs < 2 ^ 3 from h1)
    omega
  have hgl := S.good_len ok
  have hkl : S.kvs.length = 8 := by
    have := ok.keys.length_eq
    rw [List.length_map] at this
    rw [this] <;> rfl
  refine ⟨?_, ?_, ?_⟩
  · simp only [Srt.py, PyData.showable, PyData.showableAll, c, g, Bool.and_true, decide_eq_true_eq]
    omega
  · simp only [Srt.py, PyData.depth, PyData.depthAll, i]
    omega
  · refine PyData.shown_fits (B := 13) (by decide) (by decide) ?_ ?_
    · simp only [Srt.py, PyData.leavesShort, PyData.leavesShortAll, a, e, Bool.and_true, decide_eq_true_eq]
      exact PyData.shown_int_le (by omega)
    · simp only [Srt.py, PyData.weight, PyData.weightAll]
      have e20 : (2 : Nat) ^ 20 = 1048576 := by decide
      split <;> omega
theorem i_reprS {st : Stt} {q : DQ} {a : Addr} (ea : st a = some (.dK S.tbl)) (hq : q (.str S.py.shown) st) : nRepr [S.d a] st q := by
  obtain ⟨h1, h2, h3⟩ := py_ok ok
  exact .inr ⟨_, _, rfl, sh_srt ea, ⟨_, rfl⟩, h1, h2, h3, hq⟩
end
end K73
/-! K19: _law_is_other_right. -/
namespace K73
open PySem PySem.Spec L2 DL
/-! ### the sorted rows -/
def SLt (x y : Str) : Prop := ¬ y.cps.toList < x.cps.toList
theorem sgs_sorted : SGs.Pairwise SLt := by
  unfold SLt
  decide +kernel
theorem slt_anti {x y : Str} (h : SLt x y) (g : SLt y x) : x = y := by
  unfold SLt at h g
  rw [List.not_lt] at h g
  exact cps_inj (List.le_antisymm h g)
theorem sorted_uniq : ∀ {xs ys : List Str}, xs.Perm ys → xs.Pairwise SLt → ys.Pairwise SLt → xs = ys
  | [], ys, p, _, _ => (List.nil_perm.mp p).symm
  | x :: xs, [], p, _, _ => by have := p.length_eq; simp at this
  | x :: xs, y :: ys, p, hx, hy => by
    rw [List.pairwise_cons] at hx hy
    have e : x = y := by
      rcases List.mem_cons.mp (p.mem_iff.mp List.mem_cons_self) with e | h1
      · exact e
      · rcases List.mem_cons.mp (p.mem_iff.mpr List.mem_cons_self) with e | h2
        · exact e.symm
        · exact slt_anti (hx.1 y h2) (hy.1 x h1)
    subst e
    rw [sorted_uniq p.cons_inv hx.2 hy.2]
def rowD (S : Srt) (x : Str) : D := .tup [.str x, .tup (nI (S.row x))]
section
variable {S : Srt} (ok : S.Ok)
include ok
theorem items_eq : (S.tbl.map fun kv => D.tup [dK kv.1, kv.2]) = (S.kvs.map (·.1)).map (rowD S) := by
  unfold Srt.tbl
  rw [List.map_map, List.map_map]
  refine List.map_congr_left fun p hp => ?_
  have hx : p.1 ∈ SGs := ok.keys.mem_iff.mp (List.mem_map.mpr ⟨p, hp, rfl⟩)
  obtain ⟨_, _, e⟩ := S.row_ok ok hx
  have nd : (S.kvs.map (·.1)).Nodup := ok.keys.nodup_iff.mpr sgs_nodup
  have e2 : S.kvs.lookup p.1 = some p.2 := by
    clear e hx
    generalize S.kvs = l at nd hp
    induction l with
    | nil => cases hp
    | cons z l ih =>
      rw [List.map_cons, List.nodup_cons] at nd
      rw [List.lookup_cons]
      rcases List.mem_cons.mp hp with h | h
      · rw [h]; simp
      · have hne : (p.1 == z.1) = false := by
          simp only [beq_eq_false_iff_ne, ne_eq]
          intro h2
          exact nd.1 (List.mem_map.mpr ⟨p, h, h2⟩)
        rw [hne]
        exact ih nd.2 h
  rw [e2] at e
  have e3 : p.2 = S.row p.1 := Option.some.inj e
  show D.tup [.str p.1, .tup (nI p.2)] = rowD S p.1
  rw [e3] <;> rfl
theorem items_fst : (∀ d ∈ (S.tbl.map fun kv => D.tup [dK kv.1, kv.2]), ∃ x, fstS d = some x) ∧ ((S.tbl.map fun kv => D.tup [dK kv.1, kv.2]).map fstS).Nodup := by
  rw [items_eq ok]
  refine ⟨fun d hd => ?_, ?_⟩
  · obtain ⟨x, _, rfl⟩ := List.mem_map.mp hd
    exact ⟨x, rfl⟩
  · rw [List.map_map]
    have : fstS ∘ rowD S = some := by funext x; rfl
    rw [this]
    have nd : (S.kvs.map (·.1)).Nodup := ok.keys.nodup_iff.mpr sgs_nodup
    unfold List.Nodup at nd ⊢
    rw [List.pairwise_map]
    exact nd.imp fun h z => h (Option.some.inj z)
theorem sorted_items {ys : List D} (p : ys.Perm (S.tbl.map fun kv => D.tup [dK kv.1, kv.2])) (hs : ys.Pairwise fun c d => ∀ x y, fstS c = some x → fstS d = some y → ¬ y.cps.toList < x.cps.toList) : ys = SGs.map (rowD S) := by
  rw [items_eq ok] at p
  have p2 : ys.Perm (SGs.map (rowD S)) := p.trans (ok.keys.map _)
  have pz : Paired (fun (x : Str) (d : D) => d = rowD S x) SGs (SGs.map (rowD S)) := by
    generalize SGs = l
    induction l with
    | nil => exact .nil
    | cons x l ih => exact .cons rfl ih
  obtain ⟨zs, q1, q2⟩ := paired_perm p2 pz
  have ez : ys = zs.map (rowD S) := by
    clear q1 hs p p2
    induction q2 with
    | nil => rfl
    | cons h _ ih => rw [List.map_cons, ih, h]
  rw [ez] at hs ⊢
  rw [List.pairwise_map] at hs
  have hz : zs.Pairwise SLt := hs.imp fun {a b} h => h a b rfl rfl
  rw [sorted_uniq q1 hz sgs_sorted]
end
/-! ### equal types -/
theorem eqx_ints {st : Stt} {n : Nat} : ∀ ns : List Int, EqXs st n (nI ns) (nI ns)
  | [] => .nil
  | _ :: ns => .cons .int (eqx_ints ns)
theorem valD_tbl {S : Srt} {k : Key} {d : D} (h : valD S.tbl k = some d) : ∃ x ns, k = .inr x ∧ d = .tup (nI ns) ∧ x ∈ S.kvs.map (·.1) := by
  have hm := valD_mem h
  obtain ⟨p, hp, e⟩ := List.mem_map.mp hm
  injection e with e1 e2
  exact ⟨p.1, p.2, e1.symm, e2.symm, List.mem_map.mpr ⟨p, hp, rfl⟩⟩
theorem eqx_other {S : Srt} (ok : S.Ok) {st : Stt} {a b : Addr} (ea : st a = some (.dK S.other.other.tbl)) (eb : st b = some (.dK S.tbl)) : EqXs st 2 [.int S.many, .ref a, .tup (nI S.other.other.good)] [.int S.many, .ref b, .tup (nI S.good)] := by
  have ok2 := other_ok ok
  have ok3 := other_ok ok2
  rw [other_other_good ok]
  refine .cons .int (.cons (.dK ea eb (by rw [S.len8 ok, Srt.len8 ok3]) (fun k => (valD S.tbl k).getD .non) (fun k d h => ?_) fun k d h => ?_) (.cons (.tup (eqx_ints _)) .nil))
  · obtain ⟨x, ns, rfl, rfl, hx⟩ := valD_tbl h
    have hx : x ∈ SGs := ok3.keys.mem_iff.mp hx
    rw [S.tbl_at ok hx] <;> rfl
  · obtain ⟨x, ns, rfl, rfl, hx⟩ := valD_tbl h
    have hx : x ∈ SGs := ok3.keys.mem_iff.mp hx
    rw [Srt.tbl_at ok3 hx] at h
    rw [S.tbl_at ok hx]
    have e : nI ns = nI (S.row x) := by
      have h2 := Option.some.inj h
      injection h2 with h2
      rw [← h2, other_row hx, other_row hx]
    show EqX st 1 (.tup (nI ns)) (.tup (nI (S.row x)))
    rw [e]
    exact .tup (eqx_ints _)
section
variable {Γ : Gn} {ex : DXE} {a : Addr} {S : Srt} {q : DQ} {nx : DEnv → Stt → Prop} {s : Str}
theorem isr_5 {st : Stt} {d2 : Addr} {o1 o2 o3 o5 : Option D} (ok : S.Ok) (ea : st a = some (.dK S.tbl)) (ed : st d2 = some (.dK S.other.tbl)) (hq : ∀ st', Ext st st' → q (.bl true) st') :
    u__law_is_other_right_5 Γ ex { nx := nx, rt := q } [some (S.d a), o1, o2, o3, some (.str S.py.shown), o5, none, some (S.other.d d2)] st := by
  unfold u__law_is_other_right_5
  simp only [sRet, sSeq, sNext, sIf, sDrop, sSet, sAsg, sPar, sPar3, sAug, sRaise, dAndV, dOrV, dNotV, dAnd, dOr, dNot, dB, dIf, dOp, dUn, dCB, dVar, dC, dNil, dCons, dTup, dLst, dChain, dCall, gNm, gTp, gsCons, gsNil, DL.gSub, nIsi, dBM, dBM0, dPart, dNoPart, dSl, dInW, dIxW, dNewK, dNewT, dRevL, dRevT, dDPop1, dItems, dLRg, iTupD, iLstD, iStrD, iEnD, iRng1D, iRng2D, oI2, oNeg, List.getElem?_cons_zero, List.getElem?_cons_succ, List.set_cons_zero, List.set_cons_succ, exists_eq_left', exists_eq_left, exists_and_left, exists_eq', and_assoc, Option.some.injEq, List.cons.injEq, D.ty.injEq, D.bl.injEq, D.int.injEq, D.str.injEq, D.tup.injEq, D.ref.injEq, and_true, true_and]
  refine i_reprS ok ea (i_eqS (r := true) (by simp [eqS]) ⟨_, rfl, ?_⟩)
  rw [if_pos (by decide)]
  refine .inr ⟨S, a, rfl, ⟨ok, ea⟩, fun st1 p x1 np e1 => i_reprS (other_ok ok) e1 (i_reprS (other_ok ok) (x1 d2 _ ed) (i_eqS (r := true) (by simp [eqS]) (hq st1 x1)))⟩
theorem isr_3 {st st0 : Stt} {p d2 : Addr} {o1 o2 o3 : Option D} (ok : S.Ok) (ea : st0 a = some (.dK S.tbl)) (x0 : Ext st0 st) (np : st0 p = none) (ep : st p = some (.dK S.other.tbl)) (hpd : d2 ≠ p) (ed : st d2 = some (.dK S.other.tbl)) (hq : ∀ st', Ext st0 st' → q (.bl true) st') :
    u__law_is_other_right_3 Γ ex { nx := nx, rt := q } [some (S.d a), o1, o2, o3, some (.str S.py.shown), some (S.other.d p), none, some (S.other.d d2)] st := by
  have hap : a ≠ p := neq_of ea np
  unfold u__law_is_other_right_3
  simp only [sRet, sSeq, sNext, sIf, sDrop, sSet, sAsg, sPar, sPar3, sAug, sRaise, dAndV, dOrV, dNotV, dAnd, dOr, dNot, dB, dIf, dOp, dUn, dCB, dVar, dC, dNil, dCons, dTup, dLst, dChain, dCall, gNm, gTp, gsCons, gsNil, DL.gSub, nIsi, dBM, dBM0, dPart, dNoPart, dSl, dInW, dIxW, dNewK, dNewT, dRevL, dRevT, dDPop1, dItems, dLRg, iTupD, iLstD, iStrD, iEnD, iRng1D, iRng2D, oI2, oNeg, List.getElem?_cons_zero, List.getElem?_cons_succ, List.set_cons_zero, List.set_cons_succ, exists_eq_left', exists_eq_left, exists_and_left, exists_eq', and_assoc, Option.some.injEq, List.cons.injEq, D.ty.injEq, D.bl.injEq, D.int.injEq, D.str.injEq, D.tup.injEq, D.ref.injEq, and_true, true_and]
  refine i_reprS (other_ok ok) ep (i_reprS (other_ok ok) ed (i_eqS (r := true) (by simp [eqS]) ⟨_, rfl, ?_⟩))
  rw [if_neg (by decide)]
  refine .inr ⟨S.other, p, rfl, ⟨other_ok ok, ep⟩, fun st1 p3 x1 n3 e3 => ⟨_, _, 2, rfl, rfl, by decide, eqx_other ok e3 (x1 a _ (x0 a _ ea)), _, rfl, ?_⟩⟩
  rw [if_neg (by decide)]
  unfold u__law_is_other_right_4
  simp only [sRet, sSeq, sNext, sIf, sDrop, sSet, sAsg, sPar, sPar3, sAug, sRaise, dAndV, dOrV, dNotV, dAnd, dOr, dNot, dB, dIf, dOp, dUn, dCB, dVar, dC, dNil, dCons, dTup, dLst, dChain, dCall, gNm, gTp, gsCons, gsNil, DL.gSub, nIsi, dBM, dBM0, dPart, dNoPart, dSl, dInW, dIxW, dNewK, dNewT, dRevL, dRevT, dDPop1, dItems, dLRg, iTupD, iLstD, iStrD, iEnD, iRng1D, iRng2D, oI2, oNeg, List.getElem?_cons_zero, List.getElem?_cons_succ, List.set_cons_zero, List.set_cons_succ, exists_eq_left', exists_eq_left, exists_and_left, exists_eq', and_assoc, Option.some.injEq, List.cons.injEq, D.ty.injEq, D.bl.injEq, D.int.injEq, D.str.injEq, D.tup.injEq, D.ref.injEq, and_true, true_and]
  refine i_ixT (i := 1) rfl (i_setK (x1 p _ ep) rfl (by rw [sizeLine_eq, Srt.len8 (other_ok ok)]; decide) ?_)
  have x2 : Ext st0 (put st1 p (.dK (putD S.other.tbl (.inr "a") .non))) := (x0.trans x1).put np
  exact isr_5 ok (x2 a _ ea) (by rw [put_ne hpd]; exact x1 d2 _ ed) fun st' x' => hq st' (x2.trans x')
end
theorem pure__law_is_other_right {Γ : Gn} {ds : List D} {st : Stt} {q : DQ} {ex : DX} (h : sp__law_is_other_right Γ ds st q ex) : t__law_is_other_right Γ (fun x _ st => ex x st) { nx := fun _ st' => q .non st', rt := q } (dstart N__law_is_other_right ds) st := by
  obtain ⟨S, a, rfl, ⟨ok, ea⟩, hq⟩ := h
  show t__law_is_other_right Γ _ _ [some (S.d a), none, none, none, none, none, none, none] st
  unfold t__law_is_other_right
  simp only [sRet, sSeq, sNext, sIf, sDrop, sSet, sAsg, sPar, sPar3, sAug, sRaise, dAndV, dOrV, dNotV, dAnd, dOr, dNot, dB, dIf, dOp, dUn, dCB, dVar, dC, dNil, dCons, dTup, dLst, dChain, dCall, gNm, gTp, gsCons, gsNil, DL.gSub, nIsi, dBM, dBM0, dPart, dNoPart, dSl, dInW, dIxW, dNewK, dNewT, dRevL, dRevT, dDPop1, dItems, dLRg, iTupD, iLstD, iStrD, iEnD, iRng1D, iRng2D, oI2, oNeg, List.getElem?_cons_zero, List.getElem?_cons_succ, List.set_cons_zero, List.set_cons_succ, exists_eq_left', exists_eq_left, exists_and_left, exists_eq', and_assoc, Option.some.injEq, List.cons.injEq, D.ty.injEq, D.bl.injEq, D.int.injEq, D.str.injEq, D.tup.injEq, D.ref.injEq, and_true, true_and]
  refine ⟨_, rfl, rfl, _, _, rfl, _, _, rfl, _, _, rfl, rfl, ?_⟩
  unfold u__law_is_other_right_1
  simp only [sRet, sSeq, sNext, sIf, sDrop, sSet, sAsg, sPar, sPar3, sAug, sRaise, dAndV, dOrV, dNotV, dAnd, dOr, dNot, dB, dIf, dOp, dUn, dCB, dVar, dC, dNil, dCons, dTup, dLst, dChain, dCall, gNm, gTp, gsCons, gsNil, DL.gSub, nIsi, dBM, dBM0, dPart, dNoPart, dSl, dInW, dIxW, dNewK, dNewT, dRevL, dRevT, dDPop1, dItems, dLRg, iTupD, iLstD, iStrD, iEnD, iRng1D, iRng2D, oI2, oNeg, List.getElem?_cons_zero, List.getElem?_cons_succ, List.set_cons_zero, List.set_cons_succ, exists_eq_left', exists_eq_left, exists_and_left, exists_eq', and_assoc, Option.some.injEq, List.cons.injEq, D.ty.injEq, D.bl.injEq, D.int.injEq, D.str.injEq, D.tup.injEq, D.ref.injEq, and_true, true_and]
  refine i_reprS ok ea (.inr ⟨S, a, rfl, ⟨ok, ea⟩, fun st1 p x1 np e1 => ?_⟩)
  dsimp only
  unfold u__law_is_other_right_2
  simp only [sRet, sSeq, sNext, sIf, sDrop, sSet, sAsg, sPar, sPar3, sAug, sRaise, dAndV, dOrV, dNotV, dAnd, dOr, dNot, dB, dIf, dOp, dUn, dCB, dVar, dC, dNil, dCons, dTup, dLst, dChain, dCall, gNm, gTp, gsCons, gsNil, DL.gSub, nIsi, dBM, dBM0, dPart, dNoPart, dSl, dInW, dIxW, dNewK, dNewT, dRevL, dRevT, dDPop1, dItems, dLRg, iTupD, iLstD, iStrD, iEnD, iRng1D, iRng2D, oI2, oNeg, List.getElem?_cons_zero, List.getElem?_cons_succ, List.set_cons_zero, List.set_cons_succ, exists_eq_left', exists_eq_left, exists_and_left, exists_eq', and_assoc, Option.some.injEq, List.cons.injEq, D.ty.injEq, D.bl.injEq, D.int.injEq, D.str.injEq, D.tup.injEq, D.ref.injEq, and_true, true_and]
  simp only [dLc]
  simp only [sRet, sSeq, sNext, sIf, sDrop, sSet, sAsg, sPar, sPar3, sAug, sRaise, dAndV, dOrV, dNotV, dAnd, dOr, dNot, dB, dIf, dOp, dUn, dCB, dVar, dC, dNil, dCons, dTup, dLst, dChain, dCall, gNm, gTp, gsCons, gsNil, DL.gSub, nIsi, dBM, dBM0, dPart, dNoPart, dSl, dInW, dIxW, dNewK, dNewT, dRevL, dRevT, dDPop1, dItems, dLRg, iTupD, iLstD, iStrD, iEnD, iRng1D, iRng2D, oI2, oNeg, List.getElem?_cons_zero, List.getElem?_cons_succ, List.set_cons_zero, List.set_cons_succ, exists_eq_left', exists_eq_left, exists_and_left, exists_eq', and_assoc, Option.some.injEq, List.cons.injEq, D.ty.injEq, D.bl.injEq, D.int.injEq, D.str.injEq, D.tup.injEq, D.ref.injEq, and_true, true_and]
  refine ⟨_, x1 a _ ea, fun p1 n1 => ?_⟩
  obtain ⟨hf, hn⟩ := items_fst ok
  refine ⟨p1, _, rfl, put_same, hf, hn, fun p2 ys n2 hp hs => ?_⟩
  have ey := sorted_items ok hp hs
  refine ⟨p2, rfl, .inl ⟨ys, SGs.map fun x => (Sum.inr x, .tup (nI (S.row x))), put_same, by rw [ey]; exact pairs_str (fun x => .tup (nI (S.row x))) SGs, fun d2 nd => ?_⟩⟩
  have em : mergeD [] (SGs.map fun x => ((Sum.inr x : Key), D.tup (nI (S.row x)))) = S.other.tbl := by
    rw [← Srt.other_tbl, merge_new _ _ (by simpa using other_keys S)] <;> rfl
  rw [em]
  have x3 : Ext st1 (put (put (put st1 p1 (.lst (S.tbl.map fun kv => D.tup [dK kv.1, kv.2]))) p2 (.lst ys)) d2 (.dK S.other.tbl)) := ((Ext.new n1).trans (.new n2)).trans (.new nd)
  have nd0 : st1 d2 = none := ((Ext.new n1).trans (.new n2)).none nd
  have e3 : put (put (put st1 p1 (.lst (S.tbl.map fun kv => D.tup [dK kv.1, kv.2]))) p2 (.lst ys)) d2 (.dK S.other.tbl) d2 = some (.dK S.other.tbl) := put_same
  have hpd : d2 ≠ p := (neq_of e1 nd0).symm
  generalize put (put (put st1 p1 (.lst (S.tbl.map fun kv => D.tup [dK kv.1, kv.2]))) p2 (.lst ys)) d2 (.dK S.other.tbl) = st3 at x3 e3 ⊢
  have h5 := ok.m5
  refine ⟨by omega, by omega, ?_⟩
  rw [Int.toNat_natCast]
  refine lcGc (Ext st3) (fun d y => y = if onI (fun i => decide (i ∉ S.good)) d = true then some d else none) .refl (fun p st' acc np x => x.put np) (by unfold rngL; rw [sizeLine_eq]; simp; omega) (fun d hd p st' acc np x e K1 K0 h1 h0 => ?_) fun zs p4 st4 fm np4 x4 e4 => ?_
  · obtain ⟨i, _, rfl⟩ := List.mem_map.mp hd
    (simp only [CT.dg, dwipe]; simp only [sRet, sSeq, sNext, sIf, sDrop, sSet, sAsg, sPar, sPar3, sAug, sRaise, dAndV, dOrV, dNotV, dAnd, dOr, dNot, dB, dIf, dOp, dUn, dCB, dVar, dC, dNil, dCons, dTup, dLst, dChain, dCall, gNm, gTp, gsCons, gsNil, DL.gSub, nIsi, dBM, dBM0, dPart, dNoPart, dSl, dInW, dIxW, dNewK, dNewT, dRevL, dRevT, dDPop1, dItems, dLRg, iTupD, iLstD, iStrD, iEnD, iRng1D, iRng2D, oI2, oNeg, List.getElem?_cons_zero, List.getElem?_cons_succ, List.set_cons_zero, List.set_cons_succ, exists_eq_left', exists_eq_left, exists_and_left, exists_eq', and_assoc, Option.some.injEq, List.cons.injEq, D.ty.injEq, D.bl.injEq, D.int.injEq, D.str.injEq, D.tup.injEq, D.ref.injEq, and_true, true_and])
    refine i_inT rfl (flat_ints _) ⟨_, rfl, ?_⟩
    rw [Bool.true_xor, notin_ints]
    cases eg : decide (0 + ((i : Nat) : Int) ∉ S.good) with
    | true =>
      rw [if_pos rfl]
      exact h1 _ _ (by simp only [onI, eg]; rfl) x e
    | false =>
      rw [if_neg (by decide)]
      exact h0 _ (by simp only [onI, eg]; rfl) x e
  · have e5 := fm.filt fun d y h => h
    rw [range_filt] at e5
    refine ⟨_, rfl, .inr ⟨p4, zs, rfl, e4, by rw [sizeLine_eq]; simp, ?_⟩⟩
    rw [e5]
    have x14 := x3.trans x4
    exact isr_3 (st0 := st) ok ea (x1.trans x14) np (x14 p _ e1) hpd (x4 d2 _ e3) hq
end K73
/-! K20: _law_word_of, _law_is_right, law. -/
namespace K73
open PySem PySem.Spec L2 DL
theorem rulesF_ext {st st' : Stt} (x : Ext st st') {n : Int} {r : D} (h : Ty st r) : rulesF st' n r = rulesF st n r := by
  cases h with
  | lst e => simp only [rulesF, e, x _ _ e]
  | dK e _ => simp only [rulesF, e, x _ _ e]
  | _ => rfl
theorem isType_ext {st st' : Stt} (x : Ext st st') {d : D} (h : Ty st d) : isTypeF st' d = isTypeF st d := by
  cases h with
  | tup hl hh =>
    rename_i ds
    match ds, hh with
    | [], _ => rfl
    | [_], _ => rfl
    | [_, _], _ => rfl
    | _ :: _ :: _ :: _ :: _, _ => rfl
    | [m, r, g], hh =>
      show (inR m 1 5 && _) = (inR m 1 5 && _)
      cases m with
      | int n =>
        show (inR (.int n) 1 5 && (rulesF st' n r && goodF n g)) = (inR (.int n) 1 5 && (rulesF st n r && goodF n g))
        rw [rulesF_ext x (hh r (by simp))]
      | _ => rfl
  | _ => rfl
theorem NoT.ext {st st' : Stt} (x : Ext st st') {d : D} (h : NoT st d) : NoT st' d := ⟨h.1.ext x, by rw [isType_ext x h.1]; exact h.2⟩
section
variable {Γ : Gn} {w : World} (F : Fx Γ w)
include F
theorem res_type : Res Γ.K Γ.cNoType Γ.hs "type" := .hit F.m_tt
theorem res_tree : Res Γ.K Γ.cNoTree Γ.hs "tree" := .miss F.m_rt (.hit F.m_rr)
theorem pure__law_word_of {ds : List D} {st : Stt} {q : DQ} {ex : DX} (h : sp__law_word_of Γ ds st q ex) : t__law_word_of Γ (fun x _ st => ex x st) { nx := fun _ st' => q .non st', rt := q } (dstart N__law_word_of ds) st := by
  obtain ⟨S, a, d, rfl, hS, hd, ht, hq⟩ := h
  show t__law_word_of Γ _ _ [some (S.d a), some d] st
  unfold t__law_word_of
  simp only [sRet, sSeq, sNext, sIf, sDrop, sSet, sAsg, sPar, sPar3, sAug, sRaise, dAndV, dOrV, dNotV, dAnd, dOr, dNot, dB, dIf, dOp, dUn, dCB, dVar, dC, dNil, dCons, dTup, dLst, dChain, dCall, gNm, gTp, gsCons, gsNil, DL.gSub, nIsi, dBM, dBM0, dPart, dNoPart, dSl, dInW, dIxW, dNewK, dNewT, dRevL, dRevT, dDPop1, dItems, dLRg, iTupD, iLstD, iStrD, iEnD, iRng1D, iRng2D, oI2, oNeg, List.getElem?_cons_zero, List.getElem?_cons_succ, List.set_cons_zero, List.set_cons_succ, exists_eq_left', exists_eq_left, exists_and_left, exists_eq', and_assoc, Option.some.injEq, List.cons.injEq, D.ty.injEq, D.bl.injEq, D.int.injEq, D.str.injEq, D.tup.injEq, D.ref.injEq, and_true, true_and]
  simp only [dWord]
  simp only [sRet, sSeq, sNext, sIf, sDrop, sSet, sAsg, sPar, sPar3, sAug, sRaise, dAndV, dOrV, dNotV, dAnd, dOr, dNot, dB, dIf, dOp, dUn, dCB, dVar, dC, dNil, dCons, dTup, dLst, dChain, dCall, gNm, gTp, gsCons, gsNil, DL.gSub, nIsi, dBM, dBM0, dPart, dNoPart, dSl, dInW, dIxW, dNewK, dNewT, dRevL, dRevT, dDPop1, dItems, dLRg, iTupD, iLstD, iStrD, iEnD, iRng1D, iRng2D, oI2, oNeg, List.getElem?_cons_zero, List.getElem?_cons_succ, List.set_cons_zero, List.set_cons_succ, exists_eq_left', exists_eq_left, exists_and_left, exists_eq', and_assoc, Option.some.injEq, List.cons.injEq, D.ty.injEq, D.bl.injEq, D.int.injEq, D.str.injEq, D.tup.injEq, D.ref.injEq, and_true, true_and]
  exact .inr (.inl ⟨S, a, d, rfl, hS, hd, ht, fun st' x => ⟨"tree", res_tree F, hq st' x⟩⟩)
variable {ex : DXE} {N : DN} {h a : Addr} {S : Srt}
theorem isr_body {st : Stt} {o2 : D} {o3 : Option D} (ok : S.Ok) (ea : st a = some (.dK S.tbl)) (hah : a ≠ h) (hh : HandOk st h)
    (hq : ∀ st' d, Dr h st st' → (∀ st2, Mov h st' st2 → NoT st2 d) → N.nx [some (.ref h), some (S.d a), some o2, some d, none, none] st') :
    b__law_is_right_2 Γ ex N [some (.ref h), some (S.d a), some o2, o3, none, none] st := by
  unfold b__law_is_right_2
  simp only [sRet, sSeq, sNext, sIf, sDrop, sSet, sAsg, sPar, sPar3, sAug, sRaise, dAndV, dOrV, dNotV, dAnd, dOr, dNot, dB, dIf, dOp, dUn, dCB, dVar, dC, dNil, dCons, dTup, dLst, dChain, dCall, gNm, gTp, gsCons, gsNil, DL.gSub, nIsi, dBM, dBM0, dPart, dNoPart, dSl, dInW, dIxW, dNewK, dNewT, dRevL, dRevT, dDPop1, dItems, dLRg, iTupD, iLstD, iStrD, iEnD, iRng1D, iRng2D, oI2, oNeg, List.getElem?_cons_zero, List.getElem?_cons_succ, List.set_cons_zero, List.set_cons_succ, exists_eq_left', exists_eq_left, exists_and_left, exists_eq', and_assoc, Option.some.injEq, List.cons.injEq, D.ty.injEq, D.bl.injEq, D.int.injEq, D.str.injEq, D.tup.injEq, D.ref.injEq, and_true, true_and]
  refine ⟨h, S, a, rfl, hah, hh, ⟨ok, ea⟩, fun d st1 d1 hd => ?_⟩
  have hd1 : NoT st1 d := hd st1 .refl
  unfold u__law_is_right_2_1
  simp only [sRet, sSeq, sNext, sIf, sDrop, sSet, sAsg, sPar, sPar3, sAug, sRaise, dAndV, dOrV, dNotV, dAnd, dOr, dNot, dB, dIf, dOp, dUn, dCB, dVar, dC, dNil, dCons, dTup, dLst, dChain, dCall, gNm, gTp, gsCons, gsNil, DL.gSub, nIsi, dBM, dBM0, dPart, dNoPart, dSl, dInW, dIxW, dNewK, dNewT, dRevL, dRevT, dDPop1, dItems, dLRg, iTupD, iLstD, iStrD, iEnD, iRng1D, iRng2D, oI2, oNeg, List.getElem?_cons_zero, List.getElem?_cons_succ, List.set_cons_zero, List.set_cons_succ, exists_eq_left', exists_eq_left, exists_and_left, exists_eq', and_assoc, Option.some.injEq, List.cons.injEq, D.ty.injEq, D.bl.injEq, D.int.injEq, D.str.injEq, D.tup.injEq, D.ref.injEq, and_true, true_and]
  simp only [dWord]
  simp only [sRet, sSeq, sNext, sIf, sDrop, sSet, sAsg, sPar, sPar3, sAug, sRaise, dAndV, dOrV, dNotV, dAnd, dOr, dNot, dB, dIf, dOp, dUn, dCB, dVar, dC, dNil, dCons, dTup, dLst, dChain, dCall, gNm, gTp, gsCons, gsNil, DL.gSub, nIsi, dBM, dBM0, dPart, dNoPart, dSl, dInW, dIxW, dNewK, dNewT, dRevL, dRevT, dDPop1, dItems, dLRg, iTupD, iLstD, iStrD, iEnD, iRng1D, iRng2D, oI2, oNeg, List.getElem?_cons_zero, List.getElem?_cons_succ, List.set_cons_zero, List.set_cons_succ, exists_eq_left', exists_eq_left, exists_and_left, exists_eq', and_assoc, Option.some.injEq, List.cons.injEq, D.ty.injEq, D.bl.injEq, D.int.injEq, D.str.injEq, D.tup.injEq, D.ref.injEq, and_true, true_and]
  refine ⟨d, rfl, hd1.1, fun st2 x2 => ?_⟩
  rw [hd1.2]
  refine ⟨_, rfl, ?_⟩
  rw [if_neg (by decide)]
  have hd2 := hd1.ext x2
  refine .inl ⟨d, rfl, hd2.1, hd2.2, fun st3 x3 => ⟨"type", res_type F, i_eqS (r := true) rfl ⟨_, rfl, ?_⟩⟩⟩
  rw [if_neg (by decide)]
  exact hq st3 d (d1.ext (x2.trans x3)) fun st4 mv => hd st4 fun p o n e => mv p o n ((x2.trans x3) p o e)
theorem isr_loop {chk : Stt → Prop} (hc : ∀ st, chk st) (ok : S.Ok) (hah : a ≠ h) : ∀ (ds : List D) (o2 o3 : Option D) (st : Stt), st a = some (.dK S.tbl) → HandOk st h → (ds = [] → ∃ d, o3 = some d ∧ ∀ st2, Mov h st st2 → NoT st2 d) →
    (∀ st' o2 d, Dr h st st' → (∀ st2, Mov h st' st2 → NoT st2 d) → N.nx [some (.ref h), some (S.d a), o2, some d, none, none] st') →
    runF chk (gNm 2) (b__law_is_right_2 Γ ex) N ds [some (.ref h), some (S.d a), o2, o3, none, none] st
  | [], o2, o3, st, ea, hh, h0, hq => by
    obtain ⟨d, rfl, hd⟩ := h0 rfl
    exact hq st o2 d (.refl hh) hd
  | x :: ds, o2, o3, st, ea, hh, h0, hq => by
    refine isr_body F (ex := ex) (o2 := x) (o3 := o3) ok ea hah hh fun st' d d1 hd => ⟨hc _, ?_⟩
    exact isr_loop hc ok hah ds _ _ st' (d1.1 a _ hah ea) d1.2.1 (fun _ => ⟨d, rfl, hd⟩) fun st2 o2 d' d2 hd' => hq st2 o2 d' (d1.trans d2) hd'
omit F in
theorem eq_words {st : Stt} {q : DQ} {p p' : Addr} (e : st p = some (.lst [.str "type", .str "tree", .str "type", .str "tree"])) (e' : st p' = some (.lst [.str "type", .str "tree", .str "type", .str "tree"])) (hq : q (.bl true) st) : oEqB false (.ref p) (.ref p') st q := by
  have hD : ∀ {p : Addr}, st p = some (.lst [.str "type", .str "tree", .str "type", .str "tree"]) → Dt st (.ref p) (.list [.str "type", .str "tree", .str "type", .str "tree"]) := fun e => .lst e (fun z hz => by
    simp only [List.zip_cons_cons, List.zip_nil_right, List.mem_cons, List.not_mem_nil, or_false] at hz
    rcases hz with rfl | rfl | rfl | rfl <;> exact .str) rfl
  refine .inr ⟨_, _, hD e, hD e', by decide +kernel, by decide +kernel, ?_⟩
  have : PyData.eqv (.list [.str "type", .str "tree", .str "type", .str "tree"]) (.list [.str "type", .str "tree", .str "type", .str "tree"]) = true := by decide +kernel
  rw [this]
  exact hq
theorem isr_4 {st : Stt} {q : DQ} {nx : DEnv → Stt → Prop} {o2 : Option D} {wr no : D} (ok : S.Ok) (ea : st a = some (.dK S.tbl)) (hw : NoT st wr) (hn : Ty st no) (hnt : treeB no = false) (hq : ∀ st', Ext st st' → q (.bl true) st') :
    u__law_is_right_4 Γ ex { nx := nx, rt := q } [some (.ref h), some (S.d a), o2, some wr, some no, none] st := by
  unfold u__law_is_right_4
  simp only [sRet, sSeq, sNext, sIf, sDrop, sSet, sAsg, sPar, sPar3, sAug, sRaise, dAndV, dOrV, dNotV, dAnd, dOr, dNot, dB, dIf, dOp, dUn, dCB, dVar, dC, dNil, dCons, dTup, dLst, dChain, dCall, gNm, gTp, gsCons, gsNil, DL.gSub, nIsi, dBM, dBM0, dPart, dNoPart, dSl, dInW, dIxW, dNewK, dNewT, dRevL, dRevT, dDPop1, dItems, dLRg, iTupD, iLstD, iStrD, iEnD, iRng1D, iRng2D, oI2, oNeg, List.getElem?_cons_zero, List.getElem?_cons_succ, List.set_cons_zero, List.set_cons_succ, exists_eq_left', exists_eq_left, exists_and_left, exists_eq', and_assoc, Option.some.injEq, List.cons.injEq, D.ty.injEq, D.bl.injEq, D.int.injEq, D.str.injEq, D.tup.injEq, D.ref.injEq, and_true, true_and]
  simp only [dWord]
  simp only [sRet, sSeq, sNext, sIf, sDrop, sSet, sAsg, sPar, sPar3, sAug, sRaise, dAndV, dOrV, dNotV, dAnd, dOr, dNot, dB, dIf, dOp, dUn, dCB, dVar, dC, dNil, dCons, dTup, dLst, dChain, dCall, gNm, gTp, gsCons, gsNil, DL.gSub, nIsi, dBM, dBM0, dPart, dNoPart, dSl, dInW, dIxW, dNewK, dNewT, dRevL, dRevT, dDPop1, dItems, dLRg, iTupD, iLstD, iStrD, iEnD, iRng1D, iRng2D, oI2, oNeg, List.getElem?_cons_zero, List.getElem?_cons_succ, List.set_cons_zero, List.set_cons_succ, exists_eq_left', exists_eq_left, exists_and_left, exists_eq', and_assoc, Option.some.injEq, List.cons.injEq, D.ty.injEq, D.bl.injEq, D.int.injEq, D.str.injEq, D.tup.injEq, D.ref.injEq, and_true, true_and]
  refine .inl ⟨wr, no, rfl, hw.1, hw.2, fun st1 x1 => ⟨"type", res_type F, ?_⟩⟩
  refine ⟨S, a, no, rfl, ⟨ok, x1 a _ ea⟩, hn.ext x1, hnt, fun st2 x2 => ⟨by decide, fun p np => ?_⟩⟩
  have x3 : Ext st (put st2 p (.lst [.str "type", .str "tree"])) := (x1.trans x2).trans (.new np)
  have np0 : st p = none := (x1.trans x2).none np
  have e3 : put st2 p (.lst [.str "type", .str "tree"]) p = some (.lst [.str "type", .str "tree"]) := put_same
  generalize put st2 p (.lst [.str "type", .str "tree"]) = st3 at x3 e3 ⊢
  unfold u__law_is_right_5
  simp only [sRet, sSeq, sNext, sIf, sDrop, sSet, sAsg, sPar, sPar3, sAug, sRaise, dAndV, dOrV, dNotV, dAnd, dOr, dNot, dB, dIf, dOp, dUn, dCB, dVar, dC, dNil, dCons, dTup, dLst, dChain, dCall, gNm, gTp, gsCons, gsNil, DL.gSub, nIsi, dBM, dBM0, dPart, dNoPart, dSl, dInW, dIxW, dNewK, dNewT, dRevL, dRevT, dDPop1, dItems, dLRg, iTupD, iLstD, iStrD, iEnD, iRng1D, iRng2D, oI2, oNeg, List.getElem?_cons_zero, List.getElem?_cons_succ, List.set_cons_zero, List.set_cons_succ, exists_eq_left', exists_eq_left, exists_and_left, exists_eq', and_assoc, Option.some.injEq, List.cons.injEq, D.ty.injEq, D.bl.injEq, D.int.injEq, D.str.injEq, D.tup.injEq, D.ref.injEq, and_true, true_and]
  simp only [dWord]
  simp only [sRet, sSeq, sNext, sIf, sDrop, sSet, sAsg, sPar, sPar3, sAug, sRaise, dAndV, dOrV, dNotV, dAnd, dOr, dNot, dB, dIf, dOp, dUn, dCB, dVar, dC, dNil, dCons, dTup, dLst, dChain, dCall, gNm, gTp, gsCons, gsNil, DL.gSub, nIsi, dBM, dBM0, dPart, dNoPart, dSl, dInW, dIxW, dNewK, dNewT, dRevL, dRevT, dDPop1, dItems, dLRg, iTupD, iLstD, iStrD, iEnD, iRng1D, iRng2D, oI2, oNeg, List.getElem?_cons_zero, List.getElem?_cons_succ, List.set_cons_zero, List.set_cons_succ, exists_eq_left', exists_eq_left, exists_and_left, exists_eq', and_assoc, Option.some.injEq, List.cons.injEq, D.ty.injEq, D.bl.injEq, D.int.injEq, D.str.injEq, D.tup.injEq, D.ref.injEq, and_true, true_and]
  have hw3 := hw.ext x3
  refine ⟨i_isL e3, .inl ⟨wr, no, rfl, hw3.1, hw3.2, fun st4 x4 => ⟨"type", res_type F, i_append (x4 p _ e3) (by rw [sizeLine_eq]; simp) ?_⟩⟩⟩
  have x5 : Ext st (put st4 p (.lst ([.str "type", .str "tree"] ++ [.str "type"]))) := (x3.trans x4).put np0
  have e5 : put st4 p (.lst ([.str "type", .str "tree"] ++ [.str "type"])) p = some (.lst [.str "type", .str "tree", .str "type"]) := put_same
  generalize put st4 p (.lst ([.str "type", .str "tree"] ++ [.str "type"])) = st5 at x5 e5 ⊢
  unfold u__law_is_right_6
  simp only [sRet, sSeq, sNext, sIf, sDrop, sSet, sAsg, sPar, sPar3, sAug, sRaise, dAndV, dOrV, dNotV, dAnd, dOr, dNot, dB, dIf, dOp, dUn, dCB, dVar, dC, dNil, dCons, dTup, dLst, dChain, dCall, gNm, gTp, gsCons, gsNil, DL.gSub, nIsi, dBM, dBM0, dPart, dNoPart, dSl, dInW, dIxW, dNewK, dNewT, dRevL, dRevT, dDPop1, dItems, dLRg, iTupD, iLstD, iStrD, iEnD, iRng1D, iRng2D, oI2, oNeg, List.getElem?_cons_zero, List.getElem?_cons_succ, List.set_cons_zero, List.set_cons_succ, exists_eq_left', exists_eq_left, exists_and_left, exists_eq', and_assoc, Option.some.injEq, List.cons.injEq, D.ty.injEq, D.bl.injEq, D.int.injEq, D.str.injEq, D.tup.injEq, D.ref.injEq, and_true, true_and]
  simp only [dWord]
  simp only [sRet, sSeq, sNext, sIf, sDrop, sSet, sAsg, sPar, sPar3, sAug, sRaise, dAndV, dOrV, dNotV, dAnd, dOr, dNot, dB, dIf, dOp, dUn, dCB, dVar, dC, dNil, dCons, dTup, dLst, dChain, dCall, gNm, gTp, gsCons, gsNil, DL.gSub, nIsi, dBM, dBM0, dPart, dNoPart, dSl, dInW, dIxW, dNewK, dNewT, dRevL, dRevT, dDPop1, dItems, dLRg, iTupD, iLstD, iStrD, iEnD, iRng1D, iRng2D, oI2, oNeg, List.getElem?_cons_zero, List.getElem?_cons_succ, List.set_cons_zero, List.set_cons_succ, exists_eq_left', exists_eq_left, exists_and_left, exists_eq', and_assoc, Option.some.injEq, List.cons.injEq, D.ty.injEq, D.bl.injEq, D.int.injEq, D.str.injEq, D.tup.injEq, D.ref.injEq, and_true, true_and]
  refine ⟨i_isL e5, .inr (.inl ⟨S, a, no, rfl, ⟨ok, x5 a _ ea⟩, hn.ext x5, hnt, fun st6 x6 => ⟨"tree", res_tree F, i_append (x6 p _ e5) (by rw [sizeLine_eq]; simp) ?_⟩⟩)⟩
  have x7 : Ext st (put st6 p (.lst ([.str "type", .str "tree", .str "type"] ++ [.str "tree"]))) := (x5.trans x6).put np0
  have e7 : put st6 p (.lst ([.str "type", .str "tree", .str "type"] ++ [.str "tree"])) p = some (.lst [.str "type", .str "tree", .str "type", .str "tree"]) := put_same
  generalize put st6 p (.lst ([.str "type", .str "tree", .str "type"] ++ [.str "tree"])) = st7 at x7 e7 ⊢
  unfold u__law_is_right_7
  simp only [sRet, sSeq, sNext, sIf, sDrop, sSet, sAsg, sPar, sPar3, sAug, sRaise, dAndV, dOrV, dNotV, dAnd, dOr, dNot, dB, dIf, dOp, dUn, dCB, dVar, dC, dNil, dCons, dTup, dLst, dChain, dCall, gNm, gTp, gsCons, gsNil, DL.gSub, nIsi, dBM, dBM0, dPart, dNoPart, dSl, dInW, dIxW, dNewK, dNewT, dRevL, dRevT, dDPop1, dItems, dLRg, iTupD, iLstD, iStrD, iEnD, iRng1D, iRng2D, oI2, oNeg, List.getElem?_cons_zero, List.getElem?_cons_succ, List.set_cons_zero, List.set_cons_succ, exists_eq_left', exists_eq_left, exists_and_left, exists_eq', and_assoc, Option.some.injEq, List.cons.injEq, D.ty.injEq, D.bl.injEq, D.int.injEq, D.str.injEq, D.tup.injEq, D.ref.injEq, and_true, true_and]
  refine ⟨by decide, fun p8 np8 => eq_words (by rw [put_ne (neq_of e7 np8)]; exact e7) put_same (hq _ (x7.trans (.new np8)))⟩
theorem pure__law_is_right {ds : List D} {st : Stt} {q : DQ} {ex : DX} (h : sp__law_is_right Γ ds st q ex) : t__law_is_right Γ (fun x _ st => ex x st) { nx := fun _ st' => q .non st', rt := q } (dstart N__law_is_right ds) st := by
  obtain ⟨h, rfl, hh, hq⟩ := h
  show t__law_is_right Γ _ _ [some (.ref h), none, none, none, none, none] st
  unfold t__law_is_right
  simp only [sRet, sSeq, sNext, sIf, sDrop, sSet, sAsg, sPar, sPar3, sAug, sRaise, dAndV, dOrV, dNotV, dAnd, dOr, dNot, dB, dIf, dOp, dUn, dCB, dVar, dC, dNil, dCons, dTup, dLst, dChain, dCall, gNm, gTp, gsCons, gsNil, DL.gSub, nIsi, dBM, dBM0, dPart, dNoPart, dSl, dInW, dIxW, dNewK, dNewT, dRevL, dRevT, dDPop1, dItems, dLRg, iTupD, iLstD, iStrD, iEnD, iRng1D, iRng2D, oI2, oNeg, List.getElem?_cons_zero, List.getElem?_cons_succ, List.set_cons_zero, List.set_cons_succ, exists_eq_left', exists_eq_left, exists_and_left, exists_eq', and_assoc, Option.some.injEq, List.cons.injEq, D.ty.injEq, D.bl.injEq, D.int.injEq, D.str.injEq, D.tup.injEq, D.ref.injEq, and_true, true_and]
  refine ⟨h, rfl, hh, fun S a st1 d1 na hS => ?_⟩
  obtain ⟨ok, ea⟩ := hS
  have hah := hh.ne na
  unfold u__law_is_right_1
  simp only [sRet, sSeq, sNext, sIf, sDrop, sSet, sAsg, sPar, sPar3, sAug, sRaise, dAndV, dOrV, dNotV, dAnd, dOr, dNot, dB, dIf, dOp, dUn, dCB, dVar, dC, dNil, dCons, dTup, dLst, dChain, dCall, gNm, gTp, gsCons, gsNil, DL.gSub, nIsi, dBM, dBM0, dPart, dNoPart, dSl, dInW, dIxW, dNewK, dNewT, dRevL, dRevT, dDPop1, dItems, dLRg, iTupD, iLstD, iStrD, iEnD, iRng1D, iRng2D, oI2, oNeg, List.getElem?_cons_zero, List.getElem?_cons_succ, List.set_cons_zero, List.set_cons_succ, exists_eq_left', exists_eq_left, exists_and_left, exists_eq', and_assoc, Option.some.injEq, List.cons.injEq, D.ty.injEq, D.bl.injEq, D.int.injEq, D.str.injEq, D.tup.injEq, D.ref.injEq, and_true, true_and]
  refine ⟨S.d a, rfl, S.ty ok ea, fun st2 x2 => ?_⟩
  rw [S.isType ok ea]
  refine ⟨_, rfl, ?_⟩
  rw [if_neg (by decide)]
  have d2 := d1.ext x2
  refine ⟨h, S, a, rfl, hah, d2.2.1, ⟨ok, x2 a _ ea⟩, fun st3 d3 => ⟨_, rfl, ?_⟩⟩
  rw [if_neg (by decide)]
  have ea3 := d3.1 a _ hah (x2 a _ ea)
  refine ⟨S, a, rfl, ⟨ok, ea3⟩, fun st4 x4 => ⟨_, rfl, ?_⟩⟩
  rw [if_neg (by decide)]
  have d4 := (d2.trans d3).ext x4
  unfold u__law_is_right_2
  simp only [sSeq, sFor]
  simp only [sRet, sSeq, sNext, sIf, sDrop, sSet, sAsg, sPar, sPar3, sAug, sRaise, dAndV, dOrV, dNotV, dAnd, dOr, dNot, dB, dIf, dOp, dUn, dCB, dVar, dC, dNil, dCons, dTup, dLst, dChain, dCall, gNm, gTp, gsCons, gsNil, DL.gSub, nIsi, dBM, dBM0, dPart, dNoPart, dSl, dInW, dIxW, dNewK, dNewT, dRevL, dRevT, dDPop1, dItems, dLRg, iTupD, iLstD, iStrD, iEnD, iRng1D, iRng2D, oI2, oNeg, List.getElem?_cons_zero, List.getElem?_cons_succ, List.set_cons_zero, List.set_cons_succ, exists_eq_left', exists_eq_left, exists_and_left, exists_eq', and_assoc, Option.some.injEq, List.cons.injEq, D.ty.injEq, D.bl.injEq, D.int.injEq, D.str.injEq, D.tup.injEq, D.ref.injEq, and_true, true_and]
  refine ⟨by decide, by decide, ?_⟩
  refine isr_loop F (fun _ => by first | trivial | rfl) ok hah _ none none st4 (x4 a _ ea3) d4.2.1 (fun z => by cases z) fun st5 o2 wr d5 hw => ?_
  dsimp only
  unfold u__law_is_right_3
  simp only [sRet, sSeq, sNext, sIf, sDrop, sSet, sAsg, sPar, sPar3, sAug, sRaise, dAndV, dOrV, dNotV, dAnd, dOr, dNot, dB, dIf, dOp, dUn, dCB, dVar, dC, dNil, dCons, dTup, dLst, dChain, dCall, gNm, gTp, gsCons, gsNil, DL.gSub, nIsi, dBM, dBM0, dPart, dNoPart, dSl, dInW, dIxW, dNewK, dNewT, dRevL, dRevT, dDPop1, dItems, dLRg, iTupD, iLstD, iStrD, iEnD, iRng1D, iRng2D, oI2, oNeg, List.getElem?_cons_zero, List.getElem?_cons_succ, List.set_cons_zero, List.set_cons_succ, exists_eq_left', exists_eq_left, exists_and_left, exists_eq', and_assoc, Option.some.injEq, List.cons.injEq, D.ty.injEq, D.bl.injEq, D.int.injEq, D.str.injEq, D.tup.injEq, D.ref.injEq, and_true, true_and]
  refine ⟨h, rfl, d5.2.1, fun no st6 d6 hn hnt => ?_⟩
  exact isr_4 F ok (d6.1 a _ hah (d5.1 a _ hah (x4 a _ ea3))) (hw st6 d6.1) hn hnt fun st7 x7 => hq st7 (((d4.trans d5).trans d6).ext x7)
end
end K73
/-! K21: law. -/
namespace K73
open PySem PySem.Spec L2 DL
def K0 : List (Str × List Int) := [("a", [0]), ("b", [1]), ("c", [0]), ("f", [0, 1, 1, 0]), ("g", [0, 0, 0, 0]), ("h", [1, 1, 1, 1, 1, 1, 1, 1]), ("s", [1, 0]), ("t", [0, 1])]
theorem k0_ok {g : List Int} (hg : ∀ n ∈ g, 0 ≤ n ∧ n < 2) (hi : g.Pairwise (· < ·)) : Srt.Ok ⟨2, K0, g⟩ where
  m1 := (by decide : 1 ≤ 2)
  m5 := (by decide : 2 ≤ 5)
  keys := List.Perm.refl _
  rows := by
    show ∀ p ∈ K0, p.2.length = 2 ^ rk p.1 ∧ ∀ n ∈ p.2, 0 ≤ n ∧ n < ((2 : Nat) : Int)
    decide +kernel
  good := fun n hn => hg n hn
  inc := hi
def T0 : Tr := .a2 "f" (.a0 "b") (.a1 "s" (.a0 "b"))
theorem t0_ok : T0.ok := ⟨by decide +kernel, by show RK.lookup (Str.ofString "b") = some 0; decide +kernel, by decide +kernel, by show RK.lookup (Str.ofString "b") = some 0; decide +kernel⟩
theorem t0_num : num ⟨2, K0, [1]⟩ T0 = 1 := by decide +kernel
def seven : List (Key × D) := [(.inr "a", .tup [.int 0]), (.inr "b", .tup [.int 1]), (.inr "c", .tup [.int 0]), (.inr "f", .tup [.int 0, .int 1, .int 1, .int 0]), (.inr "g", .tup [.int 0, .int 0, .int 0, .int 0]), (.inr "h", .tup [.int 1, .int 1, .int 1, .int 1, .int 1, .int 1, .int 1, .int 1]), (.inr "s", .tup [.int 1, .int 0])]
theorem seven_t : putD (mergeD [] seven) (.inr "t") (.tup [.int 0, .int 1]) = (Srt.mk 2 K0 []).tbl := by
  have h1 : mergeD [] seven = seven := merge_new seven [] (by
    show (seven.map (·.1)).Nodup
    decide +kernel)
  have h2 : ∀ k ∈ seven.map (·.1), k ≠ (Sum.inr (Str.ofString "t") : Key) := by decide +kernel
  rw [h1, putD_new fun hm => h2 _ hm rfl]
  rfl
theorem pure_law {Γ : Gn} {ds : List D} {st : Stt} {q : DQ} {ex : DX} (h : sp_law Γ ds st q ex) : t_law Γ (fun x _ st => ex x st) { nx := fun _ st' => q .non st', rt := q } (dstart N_law ds) st := by
  obtain ⟨ns, rfl, hl, hq⟩ := h
  show t_law Γ _ _ [some (.scr (nI ns)), none, none, none] st
  unfold t_law
  simp only [sRet, sSeq, sNext, sIf, sDrop, sSet, sAsg, sPar, sPar3, sAug, sRaise, dAndV, dOrV, dNotV, dAnd, dOr, dNot, dB, dIf, dOp, dUn, dCB, dVar, dC, dNil, dCons, dTup, dLst, dChain, dCall, gNm, gTp, gsCons, gsNil, DL.gSub, nIsi, dBM, dBM0, dPart, dNoPart, dSl, dInW, dIxW, dNewK, dNewT, dRevL, dRevT, dDPop1, dItems, dLRg, iTupD, iLstD, iStrD, iEnD, iRng1D, iRng2D, oI2, oNeg, List.getElem?_cons_zero, List.getElem?_cons_succ, List.set_cons_zero, List.set_cons_succ, exists_eq_left', exists_eq_left, exists_and_left, exists_eq', and_assoc, Option.some.injEq, List.cons.injEq, D.ty.injEq, D.bl.injEq, D.int.injEq, D.str.injEq, D.tup.injEq, D.ref.injEq, and_true, true_and]
  refine ⟨ns, rfl, hl, fun st1 h x1 nh hh => ?_⟩
  unfold u_law_1
  simp only [sRet, sSeq, sNext, sIf, sDrop, sSet, sAsg, sPar, sPar3, sAug, sRaise, dAndV, dOrV, dNotV, dAnd, dOr, dNot, dB, dIf, dOp, dUn, dCB, dVar, dC, dNil, dCons, dTup, dLst, dChain, dCall, gNm, gTp, gsCons, gsNil, DL.gSub, nIsi, dBM, dBM0, dPart, dNoPart, dSl, dInW, dIxW, dNewK, dNewT, dRevL, dRevT, dDPop1, dItems, dLRg, iTupD, iLstD, iStrD, iEnD, iRng1D, iRng2D, oI2, oNeg, List.getElem?_cons_zero, List.getElem?_cons_succ, List.set_cons_zero, List.set_cons_succ, exists_eq_left', exists_eq_left, exists_and_left, exists_eq', and_assoc, Option.some.injEq, List.cons.injEq, D.ty.injEq, D.bl.injEq, D.int.injEq, D.str.injEq, D.tup.injEq, D.ref.injEq, and_true, true_and]
  simp only [dDispE, dDisp]
  simp only [sRet, sSeq, sNext, sIf, sDrop, sSet, sAsg, sPar, sPar3, sAug, sRaise, dAndV, dOrV, dNotV, dAnd, dOr, dNot, dB, dIf, dOp, dUn, dCB, dVar, dC, dNil, dCons, dTup, dLst, dChain, dCall, gNm, gTp, gsCons, gsNil, DL.gSub, nIsi, dBM, dBM0, dPart, dNoPart, dSl, dInW, dIxW, dNewK, dNewT, dRevL, dRevT, dDPop1, dItems, dLRg, iTupD, iLstD, iStrD, iEnD, iRng1D, iRng2D, oI2, oNeg, List.getElem?_cons_zero, List.getElem?_cons_succ, List.set_cons_zero, List.set_cons_succ, exists_eq_left', exists_eq_left, exists_and_left, exists_eq', and_assoc, Option.some.injEq, List.cons.injEq, D.ty.injEq, D.bl.injEq, D.int.injEq, D.str.injEq, D.tup.injEq, D.ref.injEq, and_true, true_and]
  intro p np
  refine ⟨by decide, by decide, by decide, by decide, by decide, ⟨by simp, by decide, by decide, by decide, ?_⟩⟩
  refine ⟨by decide, ⟨by simp, by decide, by decide, by decide, ?_⟩⟩
  refine ⟨by decide, put_same, by simp, ?_⟩
  show u_law_2 Γ _ _ _ (put (put st1 p (.dK [])) p (.dK (mergeD [] seven)))
  rw [put_put]
  unfold u_law_2
  simp only [sRet, sSeq, sNext, sIf, sDrop, sSet, sAsg, sPar, sPar3, sAug, sRaise, dAndV, dOrV, dNotV, dAnd, dOr, dNot, dB, dIf, dOp, dUn, dCB, dVar, dC, dNil, dCons, dTup, dLst, dChain, dCall, gNm, gTp, gsCons, gsNil, DL.gSub, nIsi, dBM, dBM0, dPart, dNoPart, dSl, dInW, dIxW, dNewK, dNewT, dRevL, dRevT, dDPop1, dItems, dLRg, iTupD, iLstD, iStrD, iEnD, iRng1D, iRng2D, oI2, oNeg, List.getElem?_cons_zero, List.getElem?_cons_succ, List.set_cons_zero, List.set_cons_succ, exists_eq_left', exists_eq_left, exists_and_left, exists_eq', and_assoc, Option.some.injEq, List.cons.injEq, D.ty.injEq, D.bl.injEq, D.int.injEq, D.str.injEq, D.tup.injEq, D.ref.injEq, and_true, true_and]
  refine ⟨by decide, i_setK put_same rfl (by rw [sizeLine_eq]; decide) ?_⟩
  rw [put_put, seven_t]
  have d2 := Dr.put (o := .dK (Srt.mk 2 K0 []).tbl) hh np
  have e2 : put st1 p (.dK (Srt.mk 2 K0 []).tbl) p = some (.dK (Srt.mk 2 K0 []).tbl) := put_same
  generalize put st1 p (.dK (Srt.mk 2 K0 []).tbl) = st2 at d2 e2 ⊢
  have ok1 : Srt.Ok ⟨2, K0, [1]⟩ := k0_ok (fun n hn => by rw [List.mem_singleton.mp hn]; decide) (by simp)
  have ok2 : Srt.Ok ⟨2, K0, []⟩ := k0_ok (fun n hn => by cases hn) .nil
  unfold u_law_3
  simp only [sRet, sSeq, sNext, sIf, sDrop, sSet, sAsg, sPar, sPar3, sAug, sRaise, dAndV, dOrV, dNotV, dAnd, dOr, dNot, dB, dIf, dOp, dUn, dCB, dVar, dC, dNil, dCons, dTup, dLst, dChain, dCall, gNm, gTp, gsCons, gsNil, DL.gSub, nIsi, dBM, dBM0, dPart, dNoPart, dSl, dInW, dIxW, dNewK, dNewT, dRevL, dRevT, dDPop1, dItems, dLRg, iTupD, iLstD, iStrD, iEnD, iRng1D, iRng2D, oI2, oNeg, List.getElem?_cons_zero, List.getElem?_cons_succ, List.set_cons_zero, List.set_cons_succ, exists_eq_left', exists_eq_left, exists_and_left, exists_eq', and_assoc, Option.some.injEq, List.cons.injEq, D.ty.injEq, D.bl.injEq, D.int.injEq, D.str.injEq, D.tup.injEq, D.ref.injEq, and_true, true_and]
  refine ⟨by decide, by rw [sizeLine_eq]; simp, by decide, by decide, by decide, by decide, ?_⟩
  refine .inr (.inr ⟨⟨2, K0, [1]⟩, p, T0, rfl, ⟨ok1, e2⟩, t0_ok, by decide, by decide, fun st3 x3 => ?_⟩)
  dsimp only
  rw [t0_num]
  refine t_neI ?_
  rw [if_neg (by decide)]
  refine ⟨by decide, by rw [sizeLine_eq]; simp, by decide, ?_⟩
  refine .inr (.inr ⟨⟨2, K0, []⟩, p, .a0 "b", rfl, ⟨ok2, x3 p _ e2⟩, by show RK.lookup (Str.ofString "b") = some 0; decide +kernel, by decide, by decide, fun st4 x4 => ⟨_, rfl, ?_⟩⟩)
  rw [if_neg (by simp)]
  have d4 := d2.ext (x3.trans x4)
  unfold u_law_4
  simp only [sRet, sSeq, sNext, sIf, sDrop, sSet, sAsg, sPar, sPar3, sAug, sRaise, dAndV, dOrV, dNotV, dAnd, dOr, dNot, dB, dIf, dOp, dUn, dCB, dVar, dC, dNil, dCons, dTup, dLst, dChain, dCall, gNm, gTp, gsCons, gsNil, DL.gSub, nIsi, dBM, dBM0, dPart, dNoPart, dSl, dInW, dIxW, dNewK, dNewT, dRevL, dRevT, dDPop1, dItems, dLRg, iTupD, iLstD, iStrD, iEnD, iRng1D, iRng2D, oI2, oNeg, List.getElem?_cons_zero, List.getElem?_cons_succ, List.set_cons_zero, List.set_cons_succ, exists_eq_left', exists_eq_left, exists_and_left, exists_eq', and_assoc, Option.some.injEq, List.cons.injEq, D.ty.injEq, D.bl.injEq, D.int.injEq, D.str.injEq, D.tup.injEq, D.ref.injEq, and_true, true_and]
  simp only [dLc]
  simp only [sRet, sSeq, sNext, sIf, sDrop, sSet, sAsg, sPar, sPar3, sAug, sRaise, dAndV, dOrV, dNotV, dAnd, dOr, dNot, dB, dIf, dOp, dUn, dCB, dVar, dC, dNil, dCons, dTup, dLst, dChain, dCall, gNm, gTp, gsCons, gsNil, DL.gSub, nIsi, dBM, dBM0, dPart, dNoPart, dSl, dInW, dIxW, dNewK, dNewT, dRevL, dRevT, dDPop1, dItems, dLRg, iTupD, iLstD, iStrD, iEnD, iRng1D, iRng2D, oI2, oNeg, List.getElem?_cons_zero, List.getElem?_cons_succ, List.set_cons_zero, List.set_cons_succ, exists_eq_left', exists_eq_left, exists_and_left, exists_eq', and_assoc, Option.some.injEq, List.cons.injEq, D.ty.injEq, D.bl.injEq, D.int.injEq, D.str.injEq, D.tup.injEq, D.ref.injEq, and_true, true_and]
  refine ⟨by decide, by decide, ?_⟩
  refine lcGc (Dr h st4) (fun d y => y = some (.bl true)) (.refl d4.2.1) (fun p st' acc np x => x.new d4.2.1 np) (by decide) (fun d hd p st' acc np x e K1 K0 h1 _ => ?_) fun ys p st5 fm np x5 e5 => ?_
  · (simp only [CT.dg, dwipe]; simp only [sRet, sSeq, sNext, sIf, sDrop, sSet, sAsg, sPar, sPar3, sAug, sRaise, dAndV, dOrV, dNotV, dAnd, dOr, dNot, dB, dIf, dOp, dUn, dCB, dVar, dC, dNil, dCons, dTup, dLst, dChain, dCall, gNm, gTp, gsCons, gsNil, DL.gSub, nIsi, dBM, dBM0, dPart, dNoPart, dSl, dInW, dIxW, dNewK, dNewT, dRevL, dRevT, dDPop1, dItems, dLRg, iTupD, iLstD, iStrD, iEnD, iRng1D, iRng2D, oI2, oNeg, List.getElem?_cons_zero, List.getElem?_cons_succ, List.set_cons_zero, List.set_cons_succ, exists_eq_left', exists_eq_left, exists_and_left, exists_eq', and_assoc, Option.some.injEq, List.cons.injEq, D.ty.injEq, D.bl.injEq, D.int.injEq, D.str.injEq, D.tup.injEq, D.ref.injEq, and_true, true_and])
    exact ⟨h, rfl, x.2.1, fun st6 d6 => h1 _ st6 rfl (x.trans d6) (d6.1 p _ (d4.2.1.ne np) e)⟩
  · have e6 := fm.map (f := fun _ => .bl true) fun d y h => h
    refine i_all (bs := [true, true]) (by rw [e5, e6] <;> rfl) (hq st5)
end K73
/-! K23: every def keeps its promise. -/
namespace K73
open PySem PySem.Spec L2 DL
def HasD (Γ : Gn) (x : Str) (st : Stmt) : Prop := ∃ f fd, Γ.mg x = some (.ref f) ∧ FunD Γ.K x x (defArgs st) (defBody st) (defScope st) [] [] f fd
structure DefsK (Γ : Gn) : Prop where
  h_is_integer : HasD Γ "is_integer" st_is_integer
  h_is_within : HasD Γ "is_within" st_is_within
  h_is_sign : HasD Γ "is_sign" st_is_sign
  h_has_form : HasD Γ "has_form" st_has_form
  h_is_tree : HasD Γ "is_tree" st_is_tree
  h_check_tree : HasD Γ "check_tree" st_check_tree
  h_node_rows : HasD Γ "node_rows" st_node_rows
  h_rows_of : HasD Γ "rows_of" st_rows_of
  h_number_rows : HasD Γ "number_rows" st_number_rows
  h_is_type : HasD Γ "is_type" st_is_type
  h_check_type : HasD Γ "check_type" st_check_type
  h_number_by : HasD Γ "number_by" st_number_by
  h_raw_number : HasD Γ "raw_number" st_raw_number
  h_number_of : HasD Γ "number_of" st_number_of
  h_is_of : HasD Γ "is_of" st_is_of
  h_type_other : HasD Γ "type_other" st_type_other
  h__law_hand : HasD Γ "_law_hand" st__law_hand
  h__law_draw : HasD Γ "_law_draw" st__law_draw
  h__law_any : HasD Γ "_law_any" st__law_any
  h__law_ranks : HasD Γ "_law_ranks" st__law_ranks
  h__law_to : HasD Γ "_law_to" st__law_to
  h__law_sort : HasD Γ "_law_sort" st__law_sort
  h__law_tree : HasD Γ "_law_tree" st__law_tree
  h__law_chain : HasD Γ "_law_chain" st__law_chain
  h__law_full : HasD Γ "_law_full" st__law_full
  h__law_number : HasD Γ "_law_number" st__law_number
  h__law_wrong : HasD Γ "_law_wrong" st__law_wrong
  h__law_no_tree : HasD Γ "_law_no_tree" st__law_no_tree
  h__law_flag : HasD Γ "_law_flag" st__law_flag
  h__law_word : HasD Γ "_law_word" st__law_word
  h__law_are_trees_right : HasD Γ "_law_are_trees_right" st__law_are_trees_right
  h__law_is_other_right : HasD Γ "_law_is_other_right" st__law_is_other_right
  h__law_is_right : HasD Γ "_law_is_right" st__law_is_right
  h__law_word_of : HasD Γ "_law_word_of" st__law_word_of
  h_law : HasD Γ "law" st_law
theorem dd__law_tree {P : Program} {w : World} {Γ : Gn} {base : Heap} {T : List (Addr × Str)} {f : Addr} {cdv : Value} {A : Around} {outer : List PySem.Env} {s : Shared} {H : Hp} {E : XK} {ex : DXE} (F : Fx Γ w) {kk : Nat} {spS : DSp}  (c__law_any : CalG P w Γ.K Γ.mg base T false 2 "_law_any" (sp__law_any Γ)) (c__law_ranks : CalG P w Γ.K Γ.mg base T false 1 "_law_ranks" (sp__law_ranks Γ)) (c__law_tree : CalG P w Γ.K Γ.mg base T false kk "_law_tree" spS) (hk0 : 2 ≤ kk) (C : Ct (bodyCx P w Γ.K Γ.mg base N__law_tree "_law_tree" (defScope st__law_tree) f cdv A outer s H E) ⟨T, H⟩ false kk ex) :
    PDSs (bodyCx P w Γ.K Γ.mg base N__law_tree "_law_tree" (defScope st__law_tree) f cdv A outer s H E) ⟨T, H⟩ (defBody st__law_tree) (t__law_tree Γ spS ex) := by
  exact (pdss_cons (pds_asg (pd_call C.toCe c__law_any (Nat.le_trans (by decide) hk0) (fun z => nomatch z) (pda_cons (pd_nm 0) (pda_cons (pd_ifExp (pdt_cmp (opd_eq C.un) (pd_nm 1) pd_int (nomark _)) (pd_slice sld (pd_call0 C.toCe c__law_ranks (Nat.le_trans (by decide) hk0) (fun z => nomatch z)) pdo_none (pdo_some pd_int)) (pd_call0 C.toCe c__law_ranks (Nat.le_trans (by decide) hk0) (fun z => nomatch z))) pda_nil))) (pdg_tup C.calm (pdgs_cons (pdg_nm 2 C.nd) (pdgs_cons (pdg_nm 3 C.nd) pdgs_nil)))) (pdss_one (pds_ret (pd_op opd_add (pd_tup (pda_cons (pd_nm 2) pda_nil)) (pd_callTy cd_tuple F.f_tuple bt_tuple (pda_cons (pd_lc (ct := (.one 4)) C.calm C.nd (pdi_rng1 F.f_range (pda_cons (pd_nm 3) pda_nil)) (blkOk_by (N := N__law_tree) (sc := defScope st__law_tree) (own := [("part", 4)]) (by decide +kernel)) (by decide) (fun _ _ _ _ _ => pg_name C.nd rfl (Or.inl rfl)) (fun _ _ _ _ _ => ptd_nil) (fun _ _ _ _ _ => (pd_call (C.toCe.blk _ _ _ _ _) c__law_tree (Nat.le_refl _) (fun z => nomatch z) (pda_cons (pd_nm 0) (pda_cons (pd_op opd_sub (pd_nm 1) pd_int) pda_nil))))) pda_nil))))))
theorem dd__law_number {P : Program} {w : World} {Γ : Gn} {base : Heap} {T : List (Addr × Str)} {f : Addr} {cdv : Value} {A : Around} {outer : List PySem.Env} {s : Shared} {H : Hp} {E : XK} {ex : DXE} (F : Fx Γ w) {kk : Nat} {spS : DSp}  (c__law_to : CalG P w Γ.K Γ.mg base T false 1 "_law_to" (sp__law_to Γ)) (c__law_number : CalG P w Γ.K Γ.mg base T false kk "_law_number" spS) (hk0 : 1 ≤ kk) (C : Ct (bodyCx P w Γ.K Γ.mg base N__law_number "_law_number" (defScope st__law_number) f cdv A outer s H E) ⟨T, H⟩ false kk ex) :
    PDSs (bodyCx P w Γ.K Γ.mg base N__law_number "_law_number" (defScope st__law_number) f cdv A outer s H E) ⟨T, H⟩ (defBody st__law_number) (t__law_number Γ spS ex) := by
  exact (pdss_one (pds_ret (pd_call C.toCe c__law_to (Nat.le_trans (by decide) hk0) (fun z => nomatch z) (pda_cons (pd_nm 0) (pda_cons (pd_ix (ixd C.un1) (pd_nm 1) pd_int) (pda_cons (pd_lc (ct := (.one 2)) C.calm C.nd (pdi_tup (pd_slice sld (pd_nm 1) (pdo_some pd_int) pdo_none)) (blkOk_by (N := N__law_number) (sc := defScope st__law_number) (own := [("part", 2)]) (by decide +kernel)) (by decide) (fun _ _ _ _ _ => pg_name C.nd rfl (Or.inl rfl)) (fun _ _ _ _ _ => ptd_nil) (fun _ _ _ _ _ => (pd_call (C.toCe.blk _ _ _ _ _) c__law_number (Nat.le_refl _) (fun z => nomatch z) (pda_cons (pd_nm 0) (pda_cons (pd_nm 2) pda_nil))))) pda_nil))))))
section
variable {P : Program} {w : World} {Γ : Gn} {base : Heap} {T : List (Addr × Str)}
theorem cg_is_integer (F : Fx Γ w) (D : DefsK Γ) : CalG P w Γ.K Γ.mg base T false 1 "is_integer" (sp_is_integer Γ) := by
  obtain ⟨f, fd, g, FD⟩ := D.h_is_integer
  exact cal_of FD g sc_is_integer (by exact fun _ _ _ _ _ _ us hl => match us, hl with | [_], _ => rfl) (fun ds st q ex h => by first | (obtain ⟨he, _⟩ := h; subst he; rfl) | (obtain ⟨_, he, _⟩ := h; subst he; rfl) | (obtain ⟨_, _, he, _⟩ := h; subst he; rfl) | (obtain ⟨_, _, _, he, _⟩ := h; subst he; rfl) | (obtain ⟨_, _, _, _, he, _⟩ := h; subst he; rfl) | (obtain ⟨_, _, _, _, _, he, _⟩ := h; subst he; rfl) | (obtain ⟨_, _, _, _, _, _, he, _⟩ := h; subst he; rfl) | (obtain ⟨_, _, _, _, _, _, _, he, _⟩ := h; subst he; rfl) | (obtain ⟨_, _, _, _, _, _, _, _, he, _⟩ := h; subst he; rfl) | (obtain ⟨_, _, _, _, _, _, _, _, _, he, _⟩ := h; subst he; rfl) | (obtain ⟨_, _, _, _, _, _, _, _, _, _, he, _⟩ := h; subst he; rfl)) (t_is_integer Γ) (fun cdv A outer s H E ex _ C => d_is_integer F  C) (fun ds st q ex h => pure_is_integer h)
theorem cg_is_within (F : Fx Γ w) (D : DefsK Γ) : CalG P w Γ.K Γ.mg base T false 2 "is_within" (sp_is_within Γ) := by
  obtain ⟨f, fd, g, FD⟩ := D.h_is_within
  exact cal_of FD g sc_is_within (by exact fun _ _ _ _ _ _ us hl => match us, hl with | [_, _, _], _ => rfl) (fun ds st q ex h => by first | (obtain ⟨he, _⟩ := h; subst he; rfl) | (obtain ⟨_, he, _⟩ := h; subst he; rfl) | (obtain ⟨_, _, he, _⟩ := h; subst he; rfl) | (obtain ⟨_, _, _, he, _⟩ := h; subst he; rfl) | (obtain ⟨_, _, _, _, he, _⟩ := h; subst he; rfl) | (obtain ⟨_, _, _, _, _, he, _⟩ := h; subst he; rfl) | (obtain ⟨_, _, _, _, _, _, he, _⟩ := h; subst he; rfl) | (obtain ⟨_, _, _, _, _, _, _, he, _⟩ := h; subst he; rfl) | (obtain ⟨_, _, _, _, _, _, _, _, he, _⟩ := h; subst he; rfl) | (obtain ⟨_, _, _, _, _, _, _, _, _, he, _⟩ := h; subst he; rfl) | (obtain ⟨_, _, _, _, _, _, _, _, _, _, he, _⟩ := h; subst he; rfl)) (t_is_within Γ) (fun cdv A outer s H E ex _ C => d_is_within F (cg_is_integer F D) C) (fun ds st q ex h => pure_is_within h)
theorem cg_is_sign (F : Fx Γ w) (D : DefsK Γ) : CalG P w Γ.K Γ.mg base T false 1 "is_sign" (sp_is_sign Γ) := by
  obtain ⟨f, fd, g, FD⟩ := D.h_is_sign
  exact cal_of FD g sc_is_sign (by exact fun _ _ _ _ _ _ us hl => match us, hl with | [_], _ => rfl) (fun ds st q ex h => by first | (obtain ⟨he, _⟩ := h; subst he; rfl) | (obtain ⟨_, he, _⟩ := h; subst he; rfl) | (obtain ⟨_, _, he, _⟩ := h; subst he; rfl) | (obtain ⟨_, _, _, he, _⟩ := h; subst he; rfl) | (obtain ⟨_, _, _, _, he, _⟩ := h; subst he; rfl) | (obtain ⟨_, _, _, _, _, he, _⟩ := h; subst he; rfl) | (obtain ⟨_, _, _, _, _, _, he, _⟩ := h; subst he; rfl) | (obtain ⟨_, _, _, _, _, _, _, he, _⟩ := h; subst he; rfl) | (obtain ⟨_, _, _, _, _, _, _, _, he, _⟩ := h; subst he; rfl) | (obtain ⟨_, _, _, _, _, _, _, _, _, he, _⟩ := h; subst he; rfl) | (obtain ⟨_, _, _, _, _, _, _, _, _, _, he, _⟩ := h; subst he; rfl)) (t_is_sign Γ) (fun cdv A outer s H E ex _ C => d_is_sign F  C) (fun ds st q ex h => pure_is_sign h)
theorem cg_has_form (F : Fx Γ w) (D : DefsK Γ) : CalG P w Γ.K Γ.mg base T false 2 "has_form" (sp_has_form Γ) := by
  obtain ⟨f, fd, g, FD⟩ := D.h_has_form
  exact cal_of FD g sc_has_form (by exact fun _ _ _ _ _ _ us hl => match us, hl with | [_], _ => rfl) (fun ds st q ex h => by first | (obtain ⟨he, _⟩ := h; subst he; rfl) | (obtain ⟨_, he, _⟩ := h; subst he; rfl) | (obtain ⟨_, _, he, _⟩ := h; subst he; rfl) | (obtain ⟨_, _, _, he, _⟩ := h; subst he; rfl) | (obtain ⟨_, _, _, _, he, _⟩ := h; subst he; rfl) | (obtain ⟨_, _, _, _, _, he, _⟩ := h; subst he; rfl) | (obtain ⟨_, _, _, _, _, _, he, _⟩ := h; subst he; rfl) | (obtain ⟨_, _, _, _, _, _, _, he, _⟩ := h; subst he; rfl) | (obtain ⟨_, _, _, _, _, _, _, _, he, _⟩ := h; subst he; rfl) | (obtain ⟨_, _, _, _, _, _, _, _, _, he, _⟩ := h; subst he; rfl) | (obtain ⟨_, _, _, _, _, _, _, _, _, _, he, _⟩ := h; subst he; rfl)) (t_has_form Γ) (fun cdv A outer s H E ex _ C => d_has_form F (cg_is_sign F D) C) (fun ds st q ex h => pure_has_form h)
theorem cg_is_tree (F : Fx Γ w) (D : DefsK Γ) : CalG P w Γ.K Γ.mg base T false 3 "is_tree" (sp_is_tree Γ) := by
  obtain ⟨f, fd, g, FD⟩ := D.h_is_tree
  exact cal_of FD g sc_is_tree (by exact fun _ _ _ _ _ _ us hl => match us, hl with | [_], _ => rfl) (fun ds st q ex h => by first | (obtain ⟨he, _⟩ := h; subst he; rfl) | (obtain ⟨_, he, _⟩ := h; subst he; rfl) | (obtain ⟨_, _, he, _⟩ := h; subst he; rfl) | (obtain ⟨_, _, _, he, _⟩ := h; subst he; rfl) | (obtain ⟨_, _, _, _, he, _⟩ := h; subst he; rfl) | (obtain ⟨_, _, _, _, _, he, _⟩ := h; subst he; rfl) | (obtain ⟨_, _, _, _, _, _, he, _⟩ := h; subst he; rfl) | (obtain ⟨_, _, _, _, _, _, _, he, _⟩ := h; subst he; rfl) | (obtain ⟨_, _, _, _, _, _, _, _, he, _⟩ := h; subst he; rfl) | (obtain ⟨_, _, _, _, _, _, _, _, _, he, _⟩ := h; subst he; rfl) | (obtain ⟨_, _, _, _, _, _, _, _, _, _, he, _⟩ := h; subst he; rfl)) (t_is_tree Γ) (fun cdv A outer s H E ex _ C => d_is_tree F (cg_has_form F D) C) (fun ds st q ex h => pure_is_tree h)
theorem cg_check_tree (F : Fx Γ w) (D : DefsK Γ) : CalG P w Γ.K Γ.mg base T false 4 "check_tree" (sp_check_tree Γ) := by
  obtain ⟨f, fd, g, FD⟩ := D.h_check_tree
  exact cal_of FD g sc_check_tree (by exact fun _ _ _ _ _ _ us hl => match us, hl with | [_], _ => rfl) (fun ds st q ex h => by first | (obtain ⟨he, _⟩ := h; subst he; rfl) | (obtain ⟨_, he, _⟩ := h; subst he; rfl) | (obtain ⟨_, _, he, _⟩ := h; subst he; rfl) | (obtain ⟨_, _, _, he, _⟩ := h; subst he; rfl) | (obtain ⟨_, _, _, _, he, _⟩ := h; subst he; rfl) | (obtain ⟨_, _, _, _, _, he, _⟩ := h; subst he; rfl) | (obtain ⟨_, _, _, _, _, _, he, _⟩ := h; subst he; rfl) | (obtain ⟨_, _, _, _, _, _, _, he, _⟩ := h; subst he; rfl) | (obtain ⟨_, _, _, _, _, _, _, _, he, _⟩ := h; subst he; rfl) | (obtain ⟨_, _, _, _, _, _, _, _, _, he, _⟩ := h; subst he; rfl) | (obtain ⟨_, _, _, _, _, _, _, _, _, _, he, _⟩ := h; subst he; rfl)) (t_check_tree Γ) (fun cdv A outer s H E ex _ C => d_check_tree F (cg_is_tree F D) C) (fun ds st q ex h => pure_check_tree h)
theorem cg_node_rows (F : Fx Γ w) (D : DefsK Γ) : CalG P w Γ.K Γ.mg base T false 1 "node_rows" (sp_node_rows Γ) := by
  obtain ⟨f, fd, g, FD⟩ := D.h_node_rows
  exact cal_of FD g sc_node_rows (by exact fun _ _ _ _ _ _ us hl => match us, hl with | [_], _ => rfl) (fun ds st q ex h => by first | (obtain ⟨he, _⟩ := h; subst he; rfl) | (obtain ⟨_, he, _⟩ := h; subst he; rfl) | (obtain ⟨_, _, he, _⟩ := h; subst he; rfl) | (obtain ⟨_, _, _, he, _⟩ := h; subst he; rfl) | (obtain ⟨_, _, _, _, he, _⟩ := h; subst he; rfl) | (obtain ⟨_, _, _, _, _, he, _⟩ := h; subst he; rfl) | (obtain ⟨_, _, _, _, _, _, he, _⟩ := h; subst he; rfl) | (obtain ⟨_, _, _, _, _, _, _, he, _⟩ := h; subst he; rfl) | (obtain ⟨_, _, _, _, _, _, _, _, he, _⟩ := h; subst he; rfl) | (obtain ⟨_, _, _, _, _, _, _, _, _, he, _⟩ := h; subst he; rfl) | (obtain ⟨_, _, _, _, _, _, _, _, _, _, he, _⟩ := h; subst he; rfl)) (t_node_rows Γ) (fun cdv A outer s H E ex _ C => d_node_rows F  C) (fun ds st q ex h => pure_node_rows h)
theorem cg_rows_of (F : Fx Γ w) (D : DefsK Γ) : CalG P w Γ.K Γ.mg base T false 1 "rows_of" (sp_rows_of Γ) := by
  obtain ⟨f, fd, g, FD⟩ := D.h_rows_of
  exact cal_of FD g sc_rows_of (by exact fun _ _ _ _ _ _ us hl => match us, hl with | [_], _ => rfl) (fun ds st q ex h => by first | (obtain ⟨he, _⟩ := h; subst he; rfl) | (obtain ⟨_, he, _⟩ := h; subst he; rfl) | (obtain ⟨_, _, he, _⟩ := h; subst he; rfl) | (obtain ⟨_, _, _, he, _⟩ := h; subst he; rfl) | (obtain ⟨_, _, _, _, he, _⟩ := h; subst he; rfl) | (obtain ⟨_, _, _, _, _, he, _⟩ := h; subst he; rfl) | (obtain ⟨_, _, _, _, _, _, he, _⟩ := h; subst he; rfl) | (obtain ⟨_, _, _, _, _, _, _, he, _⟩ := h; subst he; rfl) | (obtain ⟨_, _, _, _, _, _, _, _, he, _⟩ := h; subst he; rfl) | (obtain ⟨_, _, _, _, _, _, _, _, _, he, _⟩ := h; subst he; rfl) | (obtain ⟨_, _, _, _, _, _, _, _, _, _, he, _⟩ := h; subst he; rfl)) (t_rows_of Γ) (fun cdv A outer s H E ex _ C => d_rows_of F  C) (fun ds st q ex h => pure_rows_of h)
theorem cg_number_rows (F : Fx Γ w) (D : DefsK Γ) : CalG P w Γ.K Γ.mg base T false 2 "number_rows" (sp_number_rows Γ) := by
  obtain ⟨f, fd, g, FD⟩ := D.h_number_rows
  exact cal_of FD g sc_number_rows (by exact fun _ _ _ _ _ _ us hl => match us, hl with | [_, _], _ => rfl) (fun ds st q ex h => by first | (obtain ⟨he, _⟩ := h; subst he; rfl) | (obtain ⟨_, he, _⟩ := h; subst he; rfl) | (obtain ⟨_, _, he, _⟩ := h; subst he; rfl) | (obtain ⟨_, _, _, he, _⟩ := h; subst he; rfl) | (obtain ⟨_, _, _, _, he, _⟩ := h; subst he; rfl) | (obtain ⟨_, _, _, _, _, he, _⟩ := h; subst he; rfl) | (obtain ⟨_, _, _, _, _, _, he, _⟩ := h; subst he; rfl) | (obtain ⟨_, _, _, _, _, _, _, he, _⟩ := h; subst he; rfl) | (obtain ⟨_, _, _, _, _, _, _, _, he, _⟩ := h; subst he; rfl) | (obtain ⟨_, _, _, _, _, _, _, _, _, he, _⟩ := h; subst he; rfl) | (obtain ⟨_, _, _, _, _, _, _, _, _, _, he, _⟩ := h; subst he; rfl)) (t_number_rows Γ) (fun cdv A outer s H E ex _ C => d_number_rows F (cg_rows_of F D) C) (fun ds st q ex h => pure_number_rows h)
theorem cg_is_type (F : Fx Γ w) (D : DefsK Γ) : CalG P w Γ.K Γ.mg base T false 3 "is_type" (sp_is_type Γ) := by
  obtain ⟨f, fd, g, FD⟩ := D.h_is_type
  exact cal_of FD g sc_is_type (by exact fun _ _ _ _ _ _ us hl => match us, hl with | [_], _ => rfl) (fun ds st q ex h => by first | (obtain ⟨he, _⟩ := h; subst he; rfl) | (obtain ⟨_, he, _⟩ := h; subst he; rfl) | (obtain ⟨_, _, he, _⟩ := h; subst he; rfl) | (obtain ⟨_, _, _, he, _⟩ := h; subst he; rfl) | (obtain ⟨_, _, _, _, he, _⟩ := h; subst he; rfl) | (obtain ⟨_, _, _, _, _, he, _⟩ := h; subst he; rfl) | (obtain ⟨_, _, _, _, _, _, he, _⟩ := h; subst he; rfl) | (obtain ⟨_, _, _, _, _, _, _, he, _⟩ := h; subst he; rfl) | (obtain ⟨_, _, _, _, _, _, _, _, he, _⟩ := h; subst he; rfl) | (obtain ⟨_, _, _, _, _, _, _, _, _, he, _⟩ := h; subst he; rfl) | (obtain ⟨_, _, _, _, _, _, _, _, _, _, he, _⟩ := h; subst he; rfl)) (t_is_type Γ) (fun cdv A outer s H E ex _ C => d_is_type F (cg_is_within F D) (cg_number_rows F D) C) (fun ds st q ex h => pure_is_type h)
theorem cg_check_type (F : Fx Γ w) (D : DefsK Γ) : CalG P w Γ.K Γ.mg base T false 4 "check_type" (sp_check_type Γ) := by
  obtain ⟨f, fd, g, FD⟩ := D.h_check_type
  exact cal_of FD g sc_check_type (by exact fun _ _ _ _ _ _ us hl => match us, hl with | [_], _ => rfl) (fun ds st q ex h => by first | (obtain ⟨he, _⟩ := h; subst he; rfl) | (obtain ⟨_, he, _⟩ := h; subst he; rfl) | (obtain ⟨_, _, he, _⟩ := h; subst he; rfl) | (obtain ⟨_, _, _, he, _⟩ := h; subst he; rfl) | (obtain ⟨_, _, _, _, he, _⟩ := h; subst he; rfl) | (obtain ⟨_, _, _, _, _, he, _⟩ := h; subst he; rfl) | (obtain ⟨_, _, _, _, _, _, he, _⟩ := h; subst he; rfl) | (obtain ⟨_, _, _, _, _, _, _, he, _⟩ := h; subst he; rfl) | (obtain ⟨_, _, _, _, _, _, _, _, he, _⟩ := h; subst he; rfl) | (obtain ⟨_, _, _, _, _, _, _, _, _, he, _⟩ := h; subst he; rfl) | (obtain ⟨_, _, _, _, _, _, _, _, _, _, he, _⟩ := h; subst he; rfl)) (t_check_type Γ) (fun cdv A outer s H E ex _ C => d_check_type F (cg_is_type F D) C) (fun ds st q ex h => pure_check_type h)
theorem cg_number_by (F : Fx Γ w) (D : DefsK Γ) : CalG P w Γ.K Γ.mg base T false 1 "number_by" (sp_number_by Γ) := by
  obtain ⟨f, fd, g, FD⟩ := D.h_number_by
  exact cal_of FD g sc_number_by (by exact fun _ _ _ _ _ _ us hl => match us, hl with | [_, _, _], _ => rfl) (fun ds st q ex h => by first | (obtain ⟨he, _⟩ := h; subst he; rfl) | (obtain ⟨_, he, _⟩ := h; subst he; rfl) | (obtain ⟨_, _, he, _⟩ := h; subst he; rfl) | (obtain ⟨_, _, _, he, _⟩ := h; subst he; rfl) | (obtain ⟨_, _, _, _, he, _⟩ := h; subst he; rfl) | (obtain ⟨_, _, _, _, _, he, _⟩ := h; subst he; rfl) | (obtain ⟨_, _, _, _, _, _, he, _⟩ := h; subst he; rfl) | (obtain ⟨_, _, _, _, _, _, _, he, _⟩ := h; subst he; rfl) | (obtain ⟨_, _, _, _, _, _, _, _, he, _⟩ := h; subst he; rfl) | (obtain ⟨_, _, _, _, _, _, _, _, _, he, _⟩ := h; subst he; rfl) | (obtain ⟨_, _, _, _, _, _, _, _, _, _, he, _⟩ := h; subst he; rfl)) (t_number_by Γ) (fun cdv A outer s H E ex _ C => d_number_by F  C) (fun ds st q ex h => pure_number_by h)
theorem cg_raw_number (F : Fx Γ w) (D : DefsK Γ) : CalG P w Γ.K Γ.mg base T false 2 "raw_number" (sp_raw_number Γ) := by
  obtain ⟨f, fd, g, FD⟩ := D.h_raw_number
  exact cal_of FD g sc_raw_number (by exact fun _ _ _ _ _ _ us hl => match us, hl with | [_, _], _ => rfl) (fun ds st q ex h => by first | (obtain ⟨he, _⟩ := h; subst he; rfl) | (obtain ⟨_, he, _⟩ := h; subst he; rfl) | (obtain ⟨_, _, he, _⟩ := h; subst he; rfl) | (obtain ⟨_, _, _, he, _⟩ := h; subst he; rfl) | (obtain ⟨_, _, _, _, he, _⟩ := h; subst he; rfl) | (obtain ⟨_, _, _, _, _, he, _⟩ := h; subst he; rfl) | (obtain ⟨_, _, _, _, _, _, he, _⟩ := h; subst he; rfl) | (obtain ⟨_, _, _, _, _, _, _, he, _⟩ := h; subst he; rfl) | (obtain ⟨_, _, _, _, _, _, _, _, he, _⟩ := h; subst he; rfl) | (obtain ⟨_, _, _, _, _, _, _, _, _, he, _⟩ := h; subst he; rfl) | (obtain ⟨_, _, _, _, _, _, _, _, _, _, he, _⟩ := h; subst he; rfl)) (t_raw_number Γ) (fun cdv A outer s H E ex _ C => d_raw_number F (cg_node_rows F D) (cg_number_by F D) C) (fun ds st q ex h => pure_raw_number h)
theorem cg_number_of (F : Fx Γ w) (D : DefsK Γ) : CalG P w Γ.K Γ.mg base T false 5 "number_of" (sp_number_of Γ) := by
  obtain ⟨f, fd, g, FD⟩ := D.h_number_of
  exact cal_of FD g sc_number_of (by exact fun _ _ _ _ _ _ us hl => match us, hl with | [_, _], _ => rfl) (fun ds st q ex h => by rcases h with h | h | h <;> first | (obtain ⟨he, _⟩ := h; subst he; rfl) | (obtain ⟨_, he, _⟩ := h; subst he; rfl) | (obtain ⟨_, _, he, _⟩ := h; subst he; rfl) | (obtain ⟨_, _, _, he, _⟩ := h; subst he; rfl) | (obtain ⟨_, _, _, _, he, _⟩ := h; subst he; rfl) | (obtain ⟨_, _, _, _, _, he, _⟩ := h; subst he; rfl) | (obtain ⟨_, _, _, _, _, _, he, _⟩ := h; subst he; rfl) | (obtain ⟨_, _, _, _, _, _, _, he, _⟩ := h; subst he; rfl) | (obtain ⟨_, _, _, _, _, _, _, _, he, _⟩ := h; subst he; rfl) | (obtain ⟨_, _, _, _, _, _, _, _, _, he, _⟩ := h; subst he; rfl) | (obtain ⟨_, _, _, _, _, _, _, _, _, _, he, _⟩ := h; subst he; rfl)) (t_number_of Γ) (fun cdv A outer s H E ex _ C => d_number_of F (cg_check_type F D) (cg_check_tree F D) (cg_raw_number F D) C) (fun ds st q ex h => pure_number_of h)
theorem cg_is_of (F : Fx Γ w) (D : DefsK Γ) : CalG P w Γ.K Γ.mg base T false 6 "is_of" (sp_is_of Γ) := by
  obtain ⟨f, fd, g, FD⟩ := D.h_is_of
  exact cal_of FD g sc_is_of (by exact fun _ _ _ _ _ _ us hl => match us, hl with | [_, _], _ => rfl) (fun ds st q ex h => by rcases h with h | h | h <;> first | (obtain ⟨he, _⟩ := h; subst he; rfl) | (obtain ⟨_, he, _⟩ := h; subst he; rfl) | (obtain ⟨_, _, he, _⟩ := h; subst he; rfl) | (obtain ⟨_, _, _, he, _⟩ := h; subst he; rfl) | (obtain ⟨_, _, _, _, he, _⟩ := h; subst he; rfl) | (obtain ⟨_, _, _, _, _, he, _⟩ := h; subst he; rfl) | (obtain ⟨_, _, _, _, _, _, he, _⟩ := h; subst he; rfl) | (obtain ⟨_, _, _, _, _, _, _, he, _⟩ := h; subst he; rfl) | (obtain ⟨_, _, _, _, _, _, _, _, he, _⟩ := h; subst he; rfl) | (obtain ⟨_, _, _, _, _, _, _, _, _, he, _⟩ := h; subst he; rfl) | (obtain ⟨_, _, _, _, _, _, _, _, _, _, he, _⟩ := h; subst he; rfl)) (t_is_of Γ) (fun cdv A outer s H E ex _ C => d_is_of F (cg_number_of F D) C) (fun ds st q ex h => pure_is_of h)
theorem cg_type_other (F : Fx Γ w) (D : DefsK Γ) : CalG P w Γ.K Γ.mg base T false 5 "type_other" (sp_type_other Γ) := by
  obtain ⟨f, fd, g, FD⟩ := D.h_type_other
  exact cal_of FD g sc_type_other (by exact fun _ _ _ _ _ _ us hl => match us, hl with | [_], _ => rfl) (fun ds st q ex h => by rcases h with h | h <;> first | (obtain ⟨he, _⟩ := h; subst he; rfl) | (obtain ⟨_, he, _⟩ := h; subst he; rfl) | (obtain ⟨_, _, he, _⟩ := h; subst he; rfl) | (obtain ⟨_, _, _, he, _⟩ := h; subst he; rfl) | (obtain ⟨_, _, _, _, he, _⟩ := h; subst he; rfl) | (obtain ⟨_, _, _, _, _, he, _⟩ := h; subst he; rfl) | (obtain ⟨_, _, _, _, _, _, he, _⟩ := h; subst he; rfl) | (obtain ⟨_, _, _, _, _, _, _, he, _⟩ := h; subst he; rfl) | (obtain ⟨_, _, _, _, _, _, _, _, he, _⟩ := h; subst he; rfl) | (obtain ⟨_, _, _, _, _, _, _, _, _, he, _⟩ := h; subst he; rfl) | (obtain ⟨_, _, _, _, _, _, _, _, _, _, he, _⟩ := h; subst he; rfl)) (t_type_other Γ) (fun cdv A outer s H E ex _ C => d_type_other F (cg_check_type F D) C) (fun ds st q ex h => pure_type_other h)
theorem cg__law_hand (F : Fx Γ w) (D : DefsK Γ) : CalG P w Γ.K Γ.mg base T false 1 "_law_hand" (sp__law_hand Γ) := by
  obtain ⟨f, fd, g, FD⟩ := D.h__law_hand
  exact cal_of FD g sc__law_hand (by exact fun _ _ _ _ _ _ us hl => match us, hl with | [_], _ => rfl) (fun ds st q ex h => by first | (obtain ⟨he, _⟩ := h; subst he; rfl) | (obtain ⟨_, he, _⟩ := h; subst he; rfl) | (obtain ⟨_, _, he, _⟩ := h; subst he; rfl) | (obtain ⟨_, _, _, he, _⟩ := h; subst he; rfl) | (obtain ⟨_, _, _, _, he, _⟩ := h; subst he; rfl) | (obtain ⟨_, _, _, _, _, he, _⟩ := h; subst he; rfl) | (obtain ⟨_, _, _, _, _, _, he, _⟩ := h; subst he; rfl) | (obtain ⟨_, _, _, _, _, _, _, he, _⟩ := h; subst he; rfl) | (obtain ⟨_, _, _, _, _, _, _, _, he, _⟩ := h; subst he; rfl) | (obtain ⟨_, _, _, _, _, _, _, _, _, he, _⟩ := h; subst he; rfl) | (obtain ⟨_, _, _, _, _, _, _, _, _, _, he, _⟩ := h; subst he; rfl)) (t__law_hand Γ) (fun cdv A outer s H E ex _ C => d__law_hand F  C) (fun ds st q ex h => pure__law_hand h)
theorem cg__law_draw (F : Fx Γ w) (D : DefsK Γ) : CalG P w Γ.K Γ.mg base T false 1 "_law_draw" (sp__law_draw Γ) := by
  obtain ⟨f, fd, g, FD⟩ := D.h__law_draw
  exact cal_of FD g sc__law_draw (by exact fun _ _ _ _ _ _ us hl => match us, hl with | [_, _], _ => rfl) (fun ds st q ex h => by first | (obtain ⟨he, _⟩ := h; subst he; rfl) | (obtain ⟨_, he, _⟩ := h; subst he; rfl) | (obtain ⟨_, _, he, _⟩ := h; subst he; rfl) | (obtain ⟨_, _, _, he, _⟩ := h; subst he; rfl) | (obtain ⟨_, _, _, _, he, _⟩ := h; subst he; rfl) | (obtain ⟨_, _, _, _, _, he, _⟩ := h; subst he; rfl) | (obtain ⟨_, _, _, _, _, _, he, _⟩ := h; subst he; rfl) | (obtain ⟨_, _, _, _, _, _, _, he, _⟩ := h; subst he; rfl) | (obtain ⟨_, _, _, _, _, _, _, _, he, _⟩ := h; subst he; rfl) | (obtain ⟨_, _, _, _, _, _, _, _, _, he, _⟩ := h; subst he; rfl) | (obtain ⟨_, _, _, _, _, _, _, _, _, _, he, _⟩ := h; subst he; rfl)) (t__law_draw Γ) (fun cdv A outer s H E ex _ C => d__law_draw F  C) (fun ds st q ex h => pure__law_draw h)
theorem cg__law_any (F : Fx Γ w) (D : DefsK Γ) : CalG P w Γ.K Γ.mg base T false 2 "_law_any" (sp__law_any Γ) := by
  obtain ⟨f, fd, g, FD⟩ := D.h__law_any
  exact cal_of FD g sc__law_any (by exact fun _ _ _ _ _ _ us hl => match us, hl with | [_, _], _ => rfl) (fun ds st q ex h => by first | (obtain ⟨he, _⟩ := h; subst he; rfl) | (obtain ⟨_, he, _⟩ := h; subst he; rfl) | (obtain ⟨_, _, he, _⟩ := h; subst he; rfl) | (obtain ⟨_, _, _, he, _⟩ := h; subst he; rfl) | (obtain ⟨_, _, _, _, he, _⟩ := h; subst he; rfl) | (obtain ⟨_, _, _, _, _, he, _⟩ := h; subst he; rfl) | (obtain ⟨_, _, _, _, _, _, he, _⟩ := h; subst he; rfl) | (obtain ⟨_, _, _, _, _, _, _, he, _⟩ := h; subst he; rfl) | (obtain ⟨_, _, _, _, _, _, _, _, he, _⟩ := h; subst he; rfl) | (obtain ⟨_, _, _, _, _, _, _, _, _, he, _⟩ := h; subst he; rfl) | (obtain ⟨_, _, _, _, _, _, _, _, _, _, he, _⟩ := h; subst he; rfl)) (t__law_any Γ) (fun cdv A outer s H E ex _ C => d__law_any F (cg__law_draw F D) C) (fun ds st q ex h => pure__law_any h)
theorem cg__law_ranks (F : Fx Γ w) (D : DefsK Γ) : CalG P w Γ.K Γ.mg base T false 1 "_law_ranks" (sp__law_ranks Γ) := by
  obtain ⟨f, fd, g, FD⟩ := D.h__law_ranks
  exact cal_of FD g sc__law_ranks (by exact fun _ _ _ _ _ _ us hl => match us, hl with | [], _ => rfl) (fun ds st q ex h => by first | (obtain ⟨he, _⟩ := h; subst he; rfl) | (obtain ⟨_, he, _⟩ := h; subst he; rfl) | (obtain ⟨_, _, he, _⟩ := h; subst he; rfl) | (obtain ⟨_, _, _, he, _⟩ := h; subst he; rfl) | (obtain ⟨_, _, _, _, he, _⟩ := h; subst he; rfl) | (obtain ⟨_, _, _, _, _, he, _⟩ := h; subst he; rfl) | (obtain ⟨_, _, _, _, _, _, he, _⟩ := h; subst he; rfl) | (obtain ⟨_, _, _, _, _, _, _, he, _⟩ := h; subst he; rfl) | (obtain ⟨_, _, _, _, _, _, _, _, he, _⟩ := h; subst he; rfl) | (obtain ⟨_, _, _, _, _, _, _, _, _, he, _⟩ := h; subst he; rfl) | (obtain ⟨_, _, _, _, _, _, _, _, _, _, he, _⟩ := h; subst he; rfl)) (t__law_ranks Γ) (fun cdv A outer s H E ex _ C => d__law_ranks F  C) (fun ds st q ex h => pure__law_ranks h)
theorem cg__law_to (F : Fx Γ w) (D : DefsK Γ) : CalG P w Γ.K Γ.mg base T false 1 "_law_to" (sp__law_to Γ) := by
  obtain ⟨f, fd, g, FD⟩ := D.h__law_to
  exact cal_of FD g sc__law_to (by exact fun _ _ _ _ _ _ us hl => match us, hl with | [_, _, _], _ => rfl) (fun ds st q ex h => by first | (obtain ⟨he, _⟩ := h; subst he; rfl) | (obtain ⟨_, he, _⟩ := h; subst he; rfl) | (obtain ⟨_, _, he, _⟩ := h; subst he; rfl) | (obtain ⟨_, _, _, he, _⟩ := h; subst he; rfl) | (obtain ⟨_, _, _, _, he, _⟩ := h; subst he; rfl) | (obtain ⟨_, _, _, _, _, he, _⟩ := h; subst he; rfl) | (obtain ⟨_, _, _, _, _, _, he, _⟩ := h; subst he; rfl) | (obtain ⟨_, _, _, _, _, _, _, he, _⟩ := h; subst he; rfl) | (obtain ⟨_, _, _, _, _, _, _, _, he, _⟩ := h; subst he; rfl) | (obtain ⟨_, _, _, _, _, _, _, _, _, he, _⟩ := h; subst he; rfl) | (obtain ⟨_, _, _, _, _, _, _, _, _, _, he, _⟩ := h; subst he; rfl)) (t__law_to Γ) (fun cdv A outer s H E ex _ C => d__law_to F  C) (fun ds st q ex h => pure__law_to h)
theorem cg__law_sort (F : Fx Γ w) (D : DefsK Γ) : CalG P w Γ.K Γ.mg base T false 2 "_law_sort" (sp__law_sort Γ) := by
  obtain ⟨f, fd, g, FD⟩ := D.h__law_sort
  exact cal_of FD g sc__law_sort (by exact fun _ _ _ _ _ _ us hl => match us, hl with | [_], _ => rfl) (fun ds st q ex h => by first | (obtain ⟨he, _⟩ := h; subst he; rfl) | (obtain ⟨_, he, _⟩ := h; subst he; rfl) | (obtain ⟨_, _, he, _⟩ := h; subst he; rfl) | (obtain ⟨_, _, _, he, _⟩ := h; subst he; rfl) | (obtain ⟨_, _, _, _, he, _⟩ := h; subst he; rfl) | (obtain ⟨_, _, _, _, _, he, _⟩ := h; subst he; rfl) | (obtain ⟨_, _, _, _, _, _, he, _⟩ := h; subst he; rfl) | (obtain ⟨_, _, _, _, _, _, _, he, _⟩ := h; subst he; rfl) | (obtain ⟨_, _, _, _, _, _, _, _, he, _⟩ := h; subst he; rfl) | (obtain ⟨_, _, _, _, _, _, _, _, _, he, _⟩ := h; subst he; rfl) | (obtain ⟨_, _, _, _, _, _, _, _, _, _, he, _⟩ := h; subst he; rfl)) (t__law_sort Γ) (fun cdv A outer s H E ex _ C => d__law_sort F (cg__law_ranks F D) (cg__law_draw F D) C) (fun ds st q ex h => pure__law_sort h)
theorem cgn__law_tree (F : Fx Γ w) (D : DefsK Γ) : ∀ n : Nat, CalG P w Γ.K Γ.mg base T false (2 + n) "_law_tree" (sp__law_treeN n)
  | 0 => by
    obtain ⟨f, fd, g, FD⟩ := D.h__law_tree
    have no : ∀ ds st q ex, ¬ sp__law_treeN 0 ds st q ex := fun ds st q ex h => by obtain ⟨_, k, _, hk, _⟩ := h; exact absurd hk (Nat.not_lt_zero k)
    exact ⟨f, fd, ps__law_tree, g, FD.kp, FD.bindsN (by exact fun _ _ _ _ _ _ us hl => match us, hl with | [_, _], _ => rfl), ⟨fun ds st q ex h => (no ds st q ex h).elim, fun A outer s H args us vs Q E _ _ _ _ _ ⟨ds, st, q, ex, _, _, h, _⟩ => (no ds st q ex h).elim⟩⟩
  | n + 1 => by
    have ih := cgn__law_tree F D n
    obtain ⟨f, fd, g, FD⟩ := D.h__law_tree
    exact cal_of FD g sc__law_tree (by exact fun _ _ _ _ _ _ us hl => match us, hl with | [_, _], _ => rfl) (fun ds st q ex h => by first | (obtain ⟨he, _⟩ := h; subst he; rfl) | (obtain ⟨_, he, _⟩ := h; subst he; rfl) | (obtain ⟨_, _, he, _⟩ := h; subst he; rfl) | (obtain ⟨_, _, _, he, _⟩ := h; subst he; rfl) | (obtain ⟨_, _, _, _, he, _⟩ := h; subst he; rfl) | (obtain ⟨_, _, _, _, _, he, _⟩ := h; subst he; rfl) | (obtain ⟨_, _, _, _, _, _, he, _⟩ := h; subst he; rfl) | (obtain ⟨_, _, _, _, _, _, _, he, _⟩ := h; subst he; rfl) | (obtain ⟨_, _, _, _, _, _, _, _, he, _⟩ := h; subst he; rfl) | (obtain ⟨_, _, _, _, _, _, _, _, _, he, _⟩ := h; subst he; rfl) | (obtain ⟨_, _, _, _, _, _, _, _, _, _, he, _⟩ := h; subst he; rfl)) (t__law_tree Γ (sp__law_treeN n)) (fun cdv A outer s H E ex _ C => dd__law_tree F (cg__law_any F D) (cg__law_ranks F D) ih (by omega) C) (fun ds st q ex h => pure__law_tree h)
theorem cg__law_tree (F : Fx Γ w) (D : DefsK Γ) : CalG P w Γ.K Γ.mg base T false 7 "_law_tree" (sp__law_tree Γ) := (cgn__law_tree F D 4).mono (by decide)
theorem cg__law_chain (F : Fx Γ w) (D : DefsK Γ) : CalG P w Γ.K Γ.mg base T false 3 "_law_chain" (sp__law_chain Γ) := by
  obtain ⟨f, fd, g, FD⟩ := D.h__law_chain
  exact cal_of FD g sc__law_chain (by exact fun _ _ _ _ _ _ us hl => match us, hl with | [_, _], _ => rfl) (fun ds st q ex h => by first | (obtain ⟨he, _⟩ := h; subst he; rfl) | (obtain ⟨_, he, _⟩ := h; subst he; rfl) | (obtain ⟨_, _, he, _⟩ := h; subst he; rfl) | (obtain ⟨_, _, _, he, _⟩ := h; subst he; rfl) | (obtain ⟨_, _, _, _, he, _⟩ := h; subst he; rfl) | (obtain ⟨_, _, _, _, _, he, _⟩ := h; subst he; rfl) | (obtain ⟨_, _, _, _, _, _, he, _⟩ := h; subst he; rfl) | (obtain ⟨_, _, _, _, _, _, _, he, _⟩ := h; subst he; rfl) | (obtain ⟨_, _, _, _, _, _, _, _, he, _⟩ := h; subst he; rfl) | (obtain ⟨_, _, _, _, _, _, _, _, _, he, _⟩ := h; subst he; rfl) | (obtain ⟨_, _, _, _, _, _, _, _, _, _, he, _⟩ := h; subst he; rfl)) (t__law_chain Γ) (fun cdv A outer s H E ex _ C => d__law_chain F (cg__law_any F D) C) (fun ds st q ex h => pure__law_chain h)
theorem cg__law_full (F : Fx Γ w) (D : DefsK Γ) : CalG P w Γ.K Γ.mg base T false 3 "_law_full" (sp__law_full Γ) := by
  obtain ⟨f, fd, g, FD⟩ := D.h__law_full
  exact cal_of FD g sc__law_full (by exact fun _ _ _ _ _ _ us hl => match us, hl with | [_, _], _ => rfl) (fun ds st q ex h => by first | (obtain ⟨he, _⟩ := h; subst he; rfl) | (obtain ⟨_, he, _⟩ := h; subst he; rfl) | (obtain ⟨_, _, he, _⟩ := h; subst he; rfl) | (obtain ⟨_, _, _, he, _⟩ := h; subst he; rfl) | (obtain ⟨_, _, _, _, he, _⟩ := h; subst he; rfl) | (obtain ⟨_, _, _, _, _, he, _⟩ := h; subst he; rfl) | (obtain ⟨_, _, _, _, _, _, he, _⟩ := h; subst he; rfl) | (obtain ⟨_, _, _, _, _, _, _, he, _⟩ := h; subst he; rfl) | (obtain ⟨_, _, _, _, _, _, _, _, he, _⟩ := h; subst he; rfl) | (obtain ⟨_, _, _, _, _, _, _, _, _, he, _⟩ := h; subst he; rfl) | (obtain ⟨_, _, _, _, _, _, _, _, _, _, he, _⟩ := h; subst he; rfl)) (t__law_full Γ) (fun cdv A outer s H E ex _ C => d__law_full F (cg__law_any F D) C) (fun ds st q ex h => pure__law_full h)
theorem cgn__law_number (F : Fx Γ w) (D : DefsK Γ) : ∀ n : Nat, CalG P w Γ.K Γ.mg base T false (1 + n) "_law_number" (sp__law_numberN n)
  | 0 => by
    obtain ⟨f, fd, g, FD⟩ := D.h__law_number
    have no : ∀ ds st q ex, ¬ sp__law_numberN 0 ds st q ex := fun ds st q ex h => by obtain ⟨_, _, t, _, _, _, hk, _⟩ := h; exact absurd (Nat.le_trans (Tr.deep_pos t) hk) (by decide)
    exact ⟨f, fd, ps__law_number, g, FD.kp, FD.bindsN (by exact fun _ _ _ _ _ _ us hl => match us, hl with | [_, _], _ => rfl), ⟨fun ds st q ex h => (no ds st q ex h).elim, fun A outer s H args us vs Q E _ _ _ _ _ ⟨ds, st, q, ex, _, _, h, _⟩ => (no ds st q ex h).elim⟩⟩
  | n + 1 => by
    have ih := cgn__law_number F D n
    obtain ⟨f, fd, g, FD⟩ := D.h__law_number
    exact cal_of FD g sc__law_number (by exact fun _ _ _ _ _ _ us hl => match us, hl with | [_, _], _ => rfl) (fun ds st q ex h => by first | (obtain ⟨he, _⟩ := h; subst he; rfl) | (obtain ⟨_, he, _⟩ := h; subst he; rfl) | (obtain ⟨_, _, he, _⟩ := h; subst he; rfl) | (obtain ⟨_, _, _, he, _⟩ := h; subst he; rfl) | (obtain ⟨_, _, _, _, he, _⟩ := h; subst he; rfl) | (obtain ⟨_, _, _, _, _, he, _⟩ := h; subst he; rfl) | (obtain ⟨_, _, _, _, _, _, he, _⟩ := h; subst he; rfl) | (obtain ⟨_, _, _, _, _, _, _, he, _⟩ := h; subst he; rfl) | (obtain ⟨_, _, _, _, _, _, _, _, he, _⟩ := h; subst he; rfl) | (obtain ⟨_, _, _, _, _, _, _, _, _, he, _⟩ := h; subst he; rfl) | (obtain ⟨_, _, _, _, _, _, _, _, _, _, he, _⟩ := h; subst he; rfl)) (t__law_number Γ (sp__law_numberN n)) (fun cdv A outer s H E ex _ C => dd__law_number F (cg__law_to F D) ih (by omega) C) (fun ds st q ex h => pure__law_number h)
theorem cg__law_number (F : Fx Γ w) (D : DefsK Γ) : CalG P w Γ.K Γ.mg base T false 42 "_law_number" (sp__law_number Γ) := (cgn__law_number F D 40).mono (by decide)
theorem cg__law_wrong (F : Fx Γ w) (D : DefsK Γ) : CalG P w Γ.K Γ.mg base T false 3 "_law_wrong" (sp__law_wrong Γ) := by
  obtain ⟨f, fd, g, FD⟩ := D.h__law_wrong
  exact cal_of FD g sc__law_wrong (by exact fun _ _ _ _ _ _ us hl => match us, hl with | [_, _], _ => rfl) (fun ds st q ex h => by first | (obtain ⟨he, _⟩ := h; subst he; rfl) | (obtain ⟨_, he, _⟩ := h; subst he; rfl) | (obtain ⟨_, _, he, _⟩ := h; subst he; rfl) | (obtain ⟨_, _, _, he, _⟩ := h; subst he; rfl) | (obtain ⟨_, _, _, _, he, _⟩ := h; subst he; rfl) | (obtain ⟨_, _, _, _, _, he, _⟩ := h; subst he; rfl) | (obtain ⟨_, _, _, _, _, _, he, _⟩ := h; subst he; rfl) | (obtain ⟨_, _, _, _, _, _, _, he, _⟩ := h; subst he; rfl) | (obtain ⟨_, _, _, _, _, _, _, _, he, _⟩ := h; subst he; rfl) | (obtain ⟨_, _, _, _, _, _, _, _, _, he, _⟩ := h; subst he; rfl) | (obtain ⟨_, _, _, _, _, _, _, _, _, _, he, _⟩ := h; subst he; rfl)) (t__law_wrong Γ) (fun cdv A outer s H E ex _ C => d__law_wrong F (cg__law_any F D) C) (fun ds st q ex h => pure__law_wrong h)
theorem cg__law_no_tree (F : Fx Γ w) (D : DefsK Γ) : CalG P w Γ.K Γ.mg base T false 4 "_law_no_tree" (sp__law_no_tree Γ) := by
  obtain ⟨f, fd, g, FD⟩ := D.h__law_no_tree
  exact cal_of FD g sc__law_no_tree (by exact fun _ _ _ _ _ _ us hl => match us, hl with | [_], _ => rfl) (fun ds st q ex h => by first | (obtain ⟨he, _⟩ := h; subst he; rfl) | (obtain ⟨_, he, _⟩ := h; subst he; rfl) | (obtain ⟨_, _, he, _⟩ := h; subst he; rfl) | (obtain ⟨_, _, _, he, _⟩ := h; subst he; rfl) | (obtain ⟨_, _, _, _, he, _⟩ := h; subst he; rfl) | (obtain ⟨_, _, _, _, _, he, _⟩ := h; subst he; rfl) | (obtain ⟨_, _, _, _, _, _, he, _⟩ := h; subst he; rfl) | (obtain ⟨_, _, _, _, _, _, _, he, _⟩ := h; subst he; rfl) | (obtain ⟨_, _, _, _, _, _, _, _, he, _⟩ := h; subst he; rfl) | (obtain ⟨_, _, _, _, _, _, _, _, _, he, _⟩ := h; subst he; rfl) | (obtain ⟨_, _, _, _, _, _, _, _, _, _, he, _⟩ := h; subst he; rfl)) (t__law_no_tree Γ) (fun cdv A outer s H E ex _ C => d__law_no_tree F (cg__law_any F D) (cg__law_full F D) (cg__law_chain F D) C) (fun ds st q ex h => pure__law_no_tree h)
theorem cg__law_flag (F : Fx Γ w) (D : DefsK Γ) : CalG P w Γ.K Γ.mg base T false 1 "_law_flag" (sp__law_flag Γ) := by
  obtain ⟨f, fd, g, FD⟩ := D.h__law_flag
  exact cal_of FD g sc__law_flag (by exact fun _ _ _ _ _ _ us hl => match us, hl with | [_, _], _ => rfl) (fun ds st q ex h => by first | (obtain ⟨he, _⟩ := h; subst he; rfl) | (obtain ⟨_, he, _⟩ := h; subst he; rfl) | (obtain ⟨_, _, he, _⟩ := h; subst he; rfl) | (obtain ⟨_, _, _, he, _⟩ := h; subst he; rfl) | (obtain ⟨_, _, _, _, he, _⟩ := h; subst he; rfl) | (obtain ⟨_, _, _, _, _, he, _⟩ := h; subst he; rfl) | (obtain ⟨_, _, _, _, _, _, he, _⟩ := h; subst he; rfl) | (obtain ⟨_, _, _, _, _, _, _, he, _⟩ := h; subst he; rfl) | (obtain ⟨_, _, _, _, _, _, _, _, he, _⟩ := h; subst he; rfl) | (obtain ⟨_, _, _, _, _, _, _, _, _, he, _⟩ := h; subst he; rfl) | (obtain ⟨_, _, _, _, _, _, _, _, _, _, he, _⟩ := h; subst he; rfl)) (t__law_flag Γ) (fun cdv A outer s H E ex _ C => d__law_flag F  C) (fun ds st q ex h => pure__law_flag h)
theorem cg__law_are_trees_right (F : Fx Γ w) (D : DefsK Γ) : CalG P w Γ.K Γ.mg base T true 43 "_law_are_trees_right" (sp__law_are_trees_right Γ) := by
  obtain ⟨f, fd, g, FD⟩ := D.h__law_are_trees_right
  exact cal_of FD g sc__law_are_trees_right (by exact fun _ _ _ _ _ _ us hl => match us, hl with | [_, _], _ => rfl) (fun ds st q ex h => by first | (obtain ⟨he, _⟩ := h; subst he; rfl) | (obtain ⟨_, he, _⟩ := h; subst he; rfl) | (obtain ⟨_, _, he, _⟩ := h; subst he; rfl) | (obtain ⟨_, _, _, he, _⟩ := h; subst he; rfl) | (obtain ⟨_, _, _, _, he, _⟩ := h; subst he; rfl) | (obtain ⟨_, _, _, _, _, he, _⟩ := h; subst he; rfl) | (obtain ⟨_, _, _, _, _, _, he, _⟩ := h; subst he; rfl) | (obtain ⟨_, _, _, _, _, _, _, he, _⟩ := h; subst he; rfl) | (obtain ⟨_, _, _, _, _, _, _, _, he, _⟩ := h; subst he; rfl) | (obtain ⟨_, _, _, _, _, _, _, _, _, he, _⟩ := h; subst he; rfl) | (obtain ⟨_, _, _, _, _, _, _, _, _, _, he, _⟩ := h; subst he; rfl)) (t__law_are_trees_right Γ) (fun cdv A outer s H E ex _ C => d__law_are_trees_right F (cg__law_tree F D) (cg__law_draw F D) (cg__law_full F D) (cg__law_chain F D) (cg__law_number F D) (cg__law_flag F D) (cg_is_of F D) (cg_number_of F D) (cg_type_other F D) C) (fun ds st q ex h => pure__law_are_trees_right h)
theorem cg__law_is_other_right (F : Fx Γ w) (D : DefsK Γ) : CalG P w Γ.K Γ.mg base T true 6 "_law_is_other_right" (sp__law_is_other_right Γ) := by
  obtain ⟨f, fd, g, FD⟩ := D.h__law_is_other_right
  exact cal_of FD g sc__law_is_other_right (by exact fun _ _ _ _ _ _ us hl => match us, hl with | [_], _ => rfl) (fun ds st q ex h => by first | (obtain ⟨he, _⟩ := h; subst he; rfl) | (obtain ⟨_, he, _⟩ := h; subst he; rfl) | (obtain ⟨_, _, he, _⟩ := h; subst he; rfl) | (obtain ⟨_, _, _, he, _⟩ := h; subst he; rfl) | (obtain ⟨_, _, _, _, he, _⟩ := h; subst he; rfl) | (obtain ⟨_, _, _, _, _, he, _⟩ := h; subst he; rfl) | (obtain ⟨_, _, _, _, _, _, he, _⟩ := h; subst he; rfl) | (obtain ⟨_, _, _, _, _, _, _, he, _⟩ := h; subst he; rfl) | (obtain ⟨_, _, _, _, _, _, _, _, he, _⟩ := h; subst he; rfl) | (obtain ⟨_, _, _, _, _, _, _, _, _, he, _⟩ := h; subst he; rfl) | (obtain ⟨_, _, _, _, _, _, _, _, _, _, he, _⟩ := h; subst he; rfl)) (t__law_is_other_right Γ) (fun cdv A outer s H E ex _ C => d__law_is_other_right F (cg_type_other F D) C) (fun ds st q ex h => pure__law_is_other_right h)
/-- the two defs that make lambdas know their tables -/
structure LamsK (P : Program) (w : World) (Γ : Gn) (base : Heap) (T : List (Addr × Str)) : Prop where
  l__law_word_of : ∀ (f : Addr) (cdv : Value) (oc : Value) (od : Option Addr) (dV kV doc pm ct : Value) (an : Option Addr) (osl : Array (Option Value)), Γ.mg "_law_word_of" = some (.ref f) → Γ.K.lookup f = some ⟨oc, od, .func (PySem.W.fnOf "_law_word_of" "_law_word_of" (defArgs st__law_word_of) (defBody st__law_word_of) (defScope st__law_word_of) dV kV doc pm an cdv ct), osl⟩ → PySem.W.codeIn Γ.K cdv "_law_word_of" = true →
    ∃ c P', ∀ (A : Around) (outer : List PySem.Env) (s : Shared) (H : Hp) (E : XK), LamF (bodyCx P w Γ.K Γ.mg base N__law_word_of "_law_word_of" (defScope st__law_word_of) f cdv A outer s H E) ⟨T, H⟩ c P'
  l__law_is_right : ∀ (f : Addr) (cdv : Value) (oc : Value) (od : Option Addr) (dV kV doc pm ct : Value) (an : Option Addr) (osl : Array (Option Value)), Γ.mg "_law_is_right" = some (.ref f) → Γ.K.lookup f = some ⟨oc, od, .func (PySem.W.fnOf "_law_is_right" "_law_is_right" (defArgs st__law_is_right) (defBody st__law_is_right) (defScope st__law_is_right) dV kV doc pm an cdv ct), osl⟩ → PySem.W.codeIn Γ.K cdv "_law_is_right" = true →
    ∃ c P', ∀ (A : Around) (outer : List PySem.Env) (s : Shared) (H : Hp) (E : XK), LamF (bodyCx P w Γ.K Γ.mg base N__law_is_right "_law_is_right" (defScope st__law_is_right) f cdv A outer s H E) ⟨T, H⟩ c P'
theorem cg__law_word_of (F : Fx Γ w) (D : DefsK Γ) (L : LamsK P w Γ base T) : CalG P w Γ.K Γ.mg base T false 9 "_law_word_of" (sp__law_word_of Γ) := by
  obtain ⟨f, fd, g, FD⟩ := D.h__law_word_of
  obtain ⟨gWA, fdW, gW, FW⟩ := D.h__law_word
  refine cal_of FD g sc__law_word_of (by exact fun _ _ _ _ _ _ us hl => match us, hl with | [_, _], _ => rfl) (fun ds st q ex h => by first | (obtain ⟨he, _⟩ := h; subst he; rfl) | (obtain ⟨_, he, _⟩ := h; subst he; rfl) | (obtain ⟨_, _, he, _⟩ := h; subst he; rfl) | (obtain ⟨_, _, _, he, _⟩ := h; subst he; rfl) | (obtain ⟨_, _, _, _, he, _⟩ := h; subst he; rfl) | (obtain ⟨_, _, _, _, _, he, _⟩ := h; subst he; rfl) | (obtain ⟨_, _, _, _, _, _, he, _⟩ := h; subst he; rfl) | (obtain ⟨_, _, _, _, _, _, _, he, _⟩ := h; subst he; rfl) | (obtain ⟨_, _, _, _, _, _, _, _, he, _⟩ := h; subst he; rfl) | (obtain ⟨_, _, _, _, _, _, _, _, _, he, _⟩ := h; subst he; rfl) | (obtain ⟨_, _, _, _, _, _, _, _, _, _, he, _⟩ := h; subst he; rfl)) (t__law_word_of Γ) (fun cdv A outer s H E ex hl C => ?_) (fun ds st q ex h => pure__law_word_of F h)
  obtain ⟨oc, od, dV, kV, doc, pm, an, ct, osl, lk, hcd⟩ := hl
  obtain ⟨c, P', LF⟩ := L.l__law_word_of f cdv oc od dV kV doc pm ct an osl g lk hcd
  exact d__law_word_of F (cg_number_of F D) FW gW (LF A outer s H E) C
theorem cg__law_is_right (F : Fx Γ w) (D : DefsK Γ) (L : LamsK P w Γ base T) : CalG P w Γ.K Γ.mg base T true 44 "_law_is_right" (sp__law_is_right Γ) := by
  obtain ⟨f, fd, g, FD⟩ := D.h__law_is_right
  obtain ⟨gWA, fdW, gW, FW⟩ := D.h__law_word
  refine cal_of FD g sc__law_is_right (by exact fun _ _ _ _ _ _ us hl => match us, hl with | [_], _ => rfl) (fun ds st q ex h => by first | (obtain ⟨he, _⟩ := h; subst he; rfl) | (obtain ⟨_, he, _⟩ := h; subst he; rfl) | (obtain ⟨_, _, he, _⟩ := h; subst he; rfl) | (obtain ⟨_, _, _, he, _⟩ := h; subst he; rfl) | (obtain ⟨_, _, _, _, he, _⟩ := h; subst he; rfl) | (obtain ⟨_, _, _, _, _, he, _⟩ := h; subst he; rfl) | (obtain ⟨_, _, _, _, _, _, he, _⟩ := h; subst he; rfl) | (obtain ⟨_, _, _, _, _, _, _, he, _⟩ := h; subst he; rfl) | (obtain ⟨_, _, _, _, _, _, _, _, he, _⟩ := h; subst he; rfl) | (obtain ⟨_, _, _, _, _, _, _, _, _, he, _⟩ := h; subst he; rfl) | (obtain ⟨_, _, _, _, _, _, _, _, _, _, he, _⟩ := h; subst he; rfl)) (t__law_is_right Γ) (fun cdv A outer s H E ex hl C => ?_) (fun ds st q ex h => pure__law_is_right F h)
  obtain ⟨oc, od, dV, kV, doc, pm, an, ct, osl, lk, hcd⟩ := hl
  obtain ⟨c, P', LF⟩ := L.l__law_is_right f cdv oc od dV kV doc pm ct an osl g lk hcd
  exact d__law_is_right F (cg__law_sort F D) (cg__law_is_other_right F D) (cg__law_are_trees_right F D) (cg_is_type F D) (cg__law_wrong F D) (cg_type_other F D) (cg__law_no_tree F D) (cg__law_word_of F D L) (cg_number_of F D) (cg_is_of F D) FW gW (LF A outer s H E) C
theorem cg_law (F : Fx Γ w) (D : DefsK Γ) (L : LamsK P w Γ base T) : CalG P w Γ.K Γ.mg base T true 45 "law" (sp_law Γ) := by
  obtain ⟨f, fd, g, FD⟩ := D.h_law
  exact cal_of FD g sc_law (by exact fun _ _ _ _ _ _ us hl => match us, hl with | [_], _ => rfl) (fun ds st q ex h => by first | (obtain ⟨he, _⟩ := h; subst he; rfl) | (obtain ⟨_, he, _⟩ := h; subst he; rfl) | (obtain ⟨_, _, he, _⟩ := h; subst he; rfl) | (obtain ⟨_, _, _, he, _⟩ := h; subst he; rfl) | (obtain ⟨_, _, _, _, he, _⟩ := h; subst he; rfl) | (obtain ⟨_, _, _, _, _, he, _⟩ := h; subst he; rfl) | (obtain ⟨_, _, _, _, _, _, he, _⟩ := h; subst he; rfl) | (obtain ⟨_, _, _, _, _, _, _, he, _⟩ := h; subst he; rfl) | (obtain ⟨_, _, _, _, _, _, _, _, he, _⟩ := h; subst he; rfl) | (obtain ⟨_, _, _, _, _, _, _, _, _, he, _⟩ := h; subst he; rfl) | (obtain ⟨_, _, _, _, _, _, _, _, _, _, he, _⟩ := h; subst he; rfl)) (t_law Γ) (fun cdv A outer s H E ex _ C => d_law F (cg__law_hand F D) (cg_is_of F D) (cg_number_of F D) (cg__law_is_right F D L) C) (fun ds st q ex h => pure_law h)
end
end K73
/-! K22: the head's run. -/
namespace K73
open PySem PySem.Spec PyProof.Rows L2 DL
def dfd (x : Str) (st : Stmt) : He.DefD := ⟨(x, none), x, x, defArgs st, defBody st, defScope st, [], []⟩
def defs0 : List (Str × Stmt) := [("is_integer", st_is_integer), ("is_within", st_is_within), ("is_sign", st_is_sign), ("has_form", st_has_form), ("is_tree", st_is_tree), ("check_tree", st_check_tree), ("node_rows", st_node_rows), ("rows_of", st_rows_of), ("number_rows", st_number_rows)]
def defs1 : List (Str × Stmt) := [("is_type", st_is_type), ("check_type", st_check_type), ("number_by", st_number_by), ("raw_number", st_raw_number), ("number_of", st_number_of), ("is_of", st_is_of), ("type_other", st_type_other), ("_law_hand", st__law_hand), ("_law_draw", st__law_draw)]
def defs2 : List (Str × Stmt) := [("_law_any", st__law_any), ("_law_ranks", st__law_ranks), ("_law_to", st__law_to), ("_law_sort", st__law_sort), ("_law_tree", st__law_tree), ("_law_chain", st__law_chain), ("_law_full", st__law_full), ("_law_number", st__law_number), ("_law_wrong", st__law_wrong)]
def defs3 : List (Str × Stmt) := [("_law_no_tree", st__law_no_tree), ("_law_flag", st__law_flag), ("_law_word", st__law_word), ("_law_are_trees_right", st__law_are_trees_right), ("_law_is_other_right", st__law_is_other_right), ("_law_is_right", st__law_is_right), ("_law_word_of", st__law_word_of), ("law", st_law)]
def allDefs : List (Str × Stmt) := defs0 ++ defs1 ++ defs2 ++ defs3
def fnK : List He.DefD := allDefs.map fun p => dfd p.1 p.2
def faK : List He.Fa := (["isinstance", "len", "all", "range", "list", "tuple", "dict", "int", "bool", "str", "abs", "repr", "sorted", "enumerate"] : List Str).map He.Fa.free ++ (["RANKS", "NoTree", "NoType", "TellError"] : List Str).map He.Fa.glo ++ allDefs.map (fun p => He.Fa.glo p.1)
  ++ [.str "SIGNS" "abcfghst", .int "MOST_NODES" 300, .int "MOST_DEEP" 40, .int "MOST_MANY" 5, .exc "NoTree", .exc "NoType", .exm "NoType" "NoType" true, .exm "NoTree" "NoType" false, .exm "NoTree" "NoTree" true]
def tsK : List He.Tab := [(fun K => He.ga K "RANKS", RK.map (·.1))]
def lamIR : He.Defn := ("_law_is_right", none)
def lamWO : He.Defn := ("_law_word_of", none)
def tfK : List He.Defn := [lamIR, lamWO]
def exK (K : PySem.W.Frag) : Bool := He.valsB K (He.ga K "RANKS") (RK.map fun p => (p.1, He.Dv.int p.2)) && !((He.cT K lamIR).2 == (He.cT K lamWO).2)
abbrev RR : PySem.W.OpenRow := PySem.W.OpenLaw.row PySem.Challenge.rw_firstgap_k73_whole_types_and_numbers_of
abbrev hkK : PySem.W.Hook := He.hookX 4 faK fnK tsK tfK exK
def obK (s : PySem.W.SharedT) : He.AlX := He.obsX 4 faK fnK tsK tfK exK (HandSHeadRun.getT s)
theorem obK_eq (s : PySem.W.SharedT) : obK s = hkK.obs s.abs := He.obsX_eq (HandSHeadRun.getT_eq s)
def loose1 : List Str := ["TellError", "NoTree", "NoType", "RANKS", "SIGNS", "MOST_NODES", "MOST_DEEP", "is_integer", "is_within", "is_sign", "has_form", "is_tree", "check_tree", "node_rows", "rows_of", "MOST_MANY", "number_rows", "is_type", "check_type", "number_by", "raw_number"]
def loose2 : List Str := ["number_of", "is_of", "type_other", "_law_hand", "_law_draw", "_law_any", "_law_ranks", "_law_to", "_law_sort", "_law_tree", "_law_chain", "_law_full", "_law_number", "_law_wrong", "_law_no_tree", "_law_flag", "_law_word", "_law_are_trees_right", "_law_is_other_right", "_law_is_right", "_law_word_of"]
def looseK : List Str := loose1 ++ loose2
theorem runK (w : World) : HandSHeadRun.RunEq RR (PySem.W.view RR.prog [46]) hkK obK 6000 looseK w := by
  refine PySem.W.byRow2 "special-get-raises" (P := fun w => HandSHeadRun.RunEq RR (PySem.W.view RR.prog [46]) hkK obK 6000 looseK w) (fun w => ?_) (fun w => ?_) w
  · intro os
    kernel_rfl
  · intro os
    kernel_rfl
end K73
/-! K24: what the head tells. -/
namespace K73
open PySem PySem.Spec L2 DL
theorem dic_at {K : PySem.W.Frag} {a : Addr} {r : List (Option (Str × Int))} (h : He.dicW K a = some r) : ∃ c es n sl, K.lookup a = some ⟨.type c, none, .dict es n, sl⟩ ∧ es.toList.map He.keyOf = r := by
  unfold He.dicW at h
  split at h
  · rename_i c es n sl e
    split at h
    · exact ⟨c, es, n, sl, e, Option.some.inj h⟩
    · cases h
  · cases h
theorem key_at {e : DictEntry} {k : Str} {i : Int} (h : He.keyOf e = some (k, i)) : ∃ t, e.key = .str k t := by
  unfold He.keyOf at h
  split at h
  · rename_i x t q
    have h2 := Option.some.inj h
    injection h2 with h3 h4
    exact ⟨t, by rw [q, h3]⟩
  · cases h
theorem keys_out {P : Params} {z : Str} : ∀ {l : List DictEntry} {ks : List Str}, l.map He.keyOf = He.keysIn P ks → z ∉ ks → l.find? (·.key.isStr z) = none ∧ l.any (·.refKey) = false
  | [], _, _, _ => ⟨rfl, rfl⟩
  | e :: r, [], h, _ => by cases h
  | e :: r, k :: ks, h, hz => by
    have h1 : He.keyOf e :: r.map He.keyOf = some (k, PyData.keyHash P k) :: He.keysIn P ks := h
    injection h1 with h2 h3
    obtain ⟨t, ht⟩ := key_at h2
    obtain ⟨i1, i2⟩ := keys_out h3 (fun y => hz (List.mem_cons_of_mem _ y))
    have n1 : e.key.isStr z = false := by
      rw [ht]
      have ne : k ≠ z := fun y => hz (by rw [← y]; exact List.mem_cons_self)
      show (k == z) = false
      exact beq_eq_false_iff_ne.mpr ne
    have n2 : e.refKey = false := by
      unfold DictEntry.refKey
      rw [ht] <;> rfl
    exact ⟨by rw [List.find?_cons, n1]; exact i1, by rw [List.any_cons, n2, i2]; rfl⟩
theorem look_in {z : Str} {i : Int} : ∀ {l : List (Str × Int)}, l.lookup z = some i → (z, i) ∈ l
  | [], h => by cases h
  | (b, u) :: r, h => by
    have h2 : (match z == b with | true => some u | false => r.lookup z) = some i := h
    cases q : (z == b) with
    | true =>
      rw [q] at h2
      rw [beq_iff_eq.mp q, ← Option.some.inj h2]
      exact List.mem_cons_self
    | false =>
      rw [q] at h2
      exact List.mem_cons_of_mem _ (look_in h2)
section
variable {w : World} {K : PySem.W.Frag} {h : Heap} {mg : Str → Option Value}
def gnOf (K : PySem.W.Frag) (mg : Str → Option Value) : Gn := ⟨K, mg, He.ga K "NoTree", He.ga K "NoType", He.ga K "TellError", He.ga K "RANKS"⟩
theorem wdct_of (c : He.SaysX faK fnK tsK tfK exK w h K) : WDct K w (He.ga K "RANKS") RK where
  kd := c.t.tab 0 rfl
  get := fun z i hz => by
    obtain ⟨m1, _⟩ := He.ba c.more
    obtain ⟨u, h1, h2⟩ := He.valsB_ok m1 (q := (z, He.Dv.int i)) (List.mem_map.mpr ⟨(z, i), look_in hz, rfl⟩)
    obtain ⟨t, ht⟩ : ∃ t, u = Value.int i t := h2
    exact ⟨u, t, h1, ht⟩
  out := fun z hz => by
    have e : tsK.map (fun t => He.dicW K (t.1 K)) = tsK.map fun t => some (He.keysIn w.params t.2) := congrArg (fun y : He.AlT => y.2) c.t
    have e2 : He.dicW K (He.ga K "RANKS") = some (He.keysIn w.params (RK.map (·.1))) := by
      injection e
    obtain ⟨cc, es, n, sl, lk, em⟩ := dic_at e2
    have hn : z ∉ RK.map (·.1) := fun y => by
      obtain ⟨p, hp, ep⟩ := List.mem_map.mp y
      have q := List.lookup_eq_none_iff.mp hz p hp
      rw [ep] at q
      simp at q
    obtain ⟨f1, f2⟩ := keys_out em hn
    unfold PySem.W.nsIn
    rw [lk]
    show (match es.toList.find? (·.key.isStr z) with | some e => some (some e.val) | none => if es.toList.any (·.refKey) then none else some none) = some none
    rw [f1]
    show (if es.toList.any (·.refKey) then none else some none) = some none
    rw [f2] <;> rfl
theorem excC_of {x : Str} (X : K.In h) (G : h.Ns mainGlobals mg) (g : (He.Fa.glo x).ok K = true) (e : (He.Fa.exc x).ok K = true) : ExcC K mg x (He.ga K x) :=
  let ⟨h1, h2, h3, h4⟩ := He.exc_ok e
  ⟨h1, He.glo_ok X G g, h2, h3, h4⟩
theorem fx_of (X : K.In h) (G : h.Ns mainGlobals mg) (c : He.SaysX faK fnK tsK tfK exK w h K) : Fx (gnOf K mg) w where
  f_isinstance := He.free_ok X G (c.t.d.fact 0 rfl)
  f_len := He.free_ok X G (c.t.d.fact 1 rfl)
  f_all := He.free_ok X G (c.t.d.fact 2 rfl)
  f_range := He.free_ok X G (c.t.d.fact 3 rfl)
  f_list := He.free_ok X G (c.t.d.fact 4 rfl)
  f_tuple := He.free_ok X G (c.t.d.fact 5 rfl)
  f_dict := He.free_ok X G (c.t.d.fact 6 rfl)
  f_int := He.free_ok X G (c.t.d.fact 7 rfl)
  f_bool := He.free_ok X G (c.t.d.fact 8 rfl)
  f_str := He.free_ok X G (c.t.d.fact 9 rfl)
  f_abs := He.free_ok X G (c.t.d.fact 10 rfl)
  f_repr := He.free_ok X G (c.t.d.fact 11 rfl)
  f_sorted := He.free_ok X G (c.t.d.fact 12 rfl)
  f_enumerate := He.free_ok X G (c.t.d.fact 13 rfl)
  g_RANKS := He.glo_ok X G (c.t.d.fact 14 rfl)
  w_RANKS := wdct_of c
  s_SIGNS := He.str_ok X G (c.t.d.fact 53 rfl)
  i_MOST_NODES := He.int_ok X G (c.t.d.fact 54 rfl)
  i_MOST_DEEP := He.int_ok X G (c.t.d.fact 55 rfl)
  i_MOST_MANY := He.int_ok X G (c.t.d.fact 56 rfl)
  g_Tell := He.glo_ok X G (c.t.d.fact 17 rfl)
  x_NoTree := excC_of X G (c.t.d.fact 15 rfl) (c.t.d.fact 57 rfl)
  x_NoType := excC_of X G (c.t.d.fact 16 rfl) (c.t.d.fact 58 rfl)
  m_tt := He.exm_ok (c.t.d.fact 59 rfl)
  m_rt := He.exm_ok (c.t.d.fact 60 rfl)
  m_rr := He.exm_ok (c.t.d.fact 61 rfl)
theorem hasD_of {x : Str} {st : Stmt} (X : K.In h) (G : h.Ns mainGlobals mg) (g : (He.Fa.glo x).ok K = true) (d : ∃ fd, FunD K (dfd x st).name (dfd x st).qual (dfd x st).params (dfd x st).body (dfd x st).scope ((dfd x st).dvs K) ((dfd x st).kws K) (He.fAd K (dfd x st).at_) fd) : HasD (gnOf K mg) x st :=
  let ⟨fd, FD⟩ := d
  ⟨He.ga K x, fd, He.glo_ok X G g, FD⟩
theorem defs_of (X : K.In h) (G : h.Ns mainGlobals mg) (c : He.SaysX faK fnK tsK tfK exK w h K) : DefsK (gnOf K mg) where
  h_is_integer := hasD_of X G (c.t.d.fact 18 rfl) (c.t.d.def_ 0 rfl)
  h_is_within := hasD_of X G (c.t.d.fact 19 rfl) (c.t.d.def_ 1 rfl)
  h_is_sign := hasD_of X G (c.t.d.fact 20 rfl) (c.t.d.def_ 2 rfl)
  h_has_form := hasD_of X G (c.t.d.fact 21 rfl) (c.t.d.def_ 3 rfl)
  h_is_tree := hasD_of X G (c.t.d.fact 22 rfl) (c.t.d.def_ 4 rfl)
  h_check_tree := hasD_of X G (c.t.d.fact 23 rfl) (c.t.d.def_ 5 rfl)
  h_node_rows := hasD_of X G (c.t.d.fact 24 rfl) (c.t.d.def_ 6 rfl)
  h_rows_of := hasD_of X G (c.t.d.fact 25 rfl) (c.t.d.def_ 7 rfl)
  h_number_rows := hasD_of X G (c.t.d.fact 26 rfl) (c.t.d.def_ 8 rfl)
  h_is_type := hasD_of X G (c.t.d.fact 27 rfl) (c.t.d.def_ 9 rfl)
  h_check_type := hasD_of X G (c.t.d.fact 28 rfl) (c.t.d.def_ 10 rfl)
  h_number_by := hasD_of X G (c.t.d.fact 29 rfl) (c.t.d.def_ 11 rfl)
  h_raw_number := hasD_of X G (c.t.d.fact 30 rfl) (c.t.d.def_ 12 rfl)
  h_number_of := hasD_of X G (c.t.d.fact 31 rfl) (c.t.d.def_ 13 rfl)
  h_is_of := hasD_of X G (c.t.d.fact 32 rfl) (c.t.d.def_ 14 rfl)
  h_type_other := hasD_of X G (c.t.d.fact 33 rfl) (c.t.d.def_ 15 rfl)
  h__law_hand := hasD_of X G (c.t.d.fact 34 rfl) (c.t.d.def_ 16 rfl)
  h__law_draw := hasD_of X G (c.t.d.fact 35 rfl) (c.t.d.def_ 17 rfl)
  h__law_any := hasD_of X G (c.t.d.fact 36 rfl) (c.t.d.def_ 18 rfl)
  h__law_ranks := hasD_of X G (c.t.d.fact 37 rfl) (c.t.d.def_ 19 rfl)
  h__law_to := hasD_of X G (c.t.d.fact 38 rfl) (c.t.d.def_ 20 rfl)
  h__law_sort := hasD_of X G (c.t.d.fact 39 rfl) (c.t.d.def_ 21 rfl)
  h__law_tree := hasD_of X G (c.t.d.fact 40 rfl) (c.t.d.def_ 22 rfl)
  h__law_chain := hasD_of X G (c.t.d.fact 41 rfl) (c.t.d.def_ 23 rfl)
  h__law_full := hasD_of X G (c.t.d.fact 42 rfl) (c.t.d.def_ 24 rfl)
  h__law_number := hasD_of X G (c.t.d.fact 43 rfl) (c.t.d.def_ 25 rfl)
  h__law_wrong := hasD_of X G (c.t.d.fact 44 rfl) (c.t.d.def_ 26 rfl)
  h__law_no_tree := hasD_of X G (c.t.d.fact 45 rfl) (c.t.d.def_ 27 rfl)
  h__law_flag := hasD_of X G (c.t.d.fact 46 rfl) (c.t.d.def_ 28 rfl)
  h__law_word := hasD_of X G (c.t.d.fact 47 rfl) (c.t.d.def_ 29 rfl)
  h__law_are_trees_right := hasD_of X G (c.t.d.fact 48 rfl) (c.t.d.def_ 30 rfl)
  h__law_is_other_right := hasD_of X G (c.t.d.fact 49 rfl) (c.t.d.def_ 31 rfl)
  h__law_is_right := hasD_of X G (c.t.d.fact 50 rfl) (c.t.d.def_ 32 rfl)
  h__law_word_of := hasD_of X G (c.t.d.fact 51 rfl) (c.t.d.def_ 33 rfl)
  h_law := hasD_of X G (c.t.d.fact 52 rfl) (c.t.d.def_ 34 rfl)
def tabsT (K : PySem.W.Frag) : List (Addr × Str) := [((He.cT K lamIR).2, ("_law_is_right.<locals>.<lambda>" : Str)), ((He.cT K lamWO).2, ("_law_word_of.<locals>.<lambda>" : Str))]
def csK (K : PySem.W.Frag) : List (Addr × Addr) := [He.cT K lamIR, He.cT K lamWO]
theorem lams_of {P : Program} {base : Heap} (X : K.In h) (G : h.Ns mainGlobals mg) (c : He.SaysX faK fnK tsK tfK exK w h K) (TB : ∀ p ∈ csK K, LamX.TabB base mg p.1 p.2) : LamsK P w (gnOf K mg) base (tabsT K) := by
  have ne : (He.cT K lamIR).2 ≠ (He.cT K lamWO).2 := fun y => by
    obtain ⟨_, m2⟩ := He.ba c.more
    rw [y] at m2
    simp at m2
  have t1 : LamX.TabB base mg (He.cT K lamIR).1 (He.cT K lamIR).2 := TB _ List.mem_cons_self
  have t2 : LamX.TabB base mg (He.cT K lamWO).1 (He.cT K lamWO).2 := TB _ (List.mem_cons_of_mem _ List.mem_cons_self)
  refine ⟨fun f cdv oc od dV kV doc pm ct an osl g lk hcd => ?_, fun f cdv oc od dV kV doc pm ct an osl g lk hcd => ?_⟩
  · obtain ⟨cc, rfl⟩ := He.codeIn_ref hcd
    have eg : mg "_law_word_of" = some (.ref (He.ga K "_law_word_of")) := He.glo_ok X G (c.t.d.fact 51 rfl)
    obtain rfl : f = He.ga K "_law_word_of" := by
      have q := g.symm.trans eg
      injection q with q; injection q
    have e : He.codeOf K lamWO = cc := He.codeOf_eq (p := lamWO) lk rfl
    have e1 : (He.cT K lamWO).1 = cc := e
    rw [e1] at t2
    refine ⟨cc, (He.cT K lamWO).2, fun A outer s H E => ⟨t2, rfl, List.mem_cons_of_mem _ List.mem_cons_self, fun p hp ep => ?_⟩⟩
    rcases List.mem_cons.mp hp with rfl | hp
    · exact absurd ep ne
    · obtain rfl := List.mem_singleton.mp hp
      rfl
  · obtain ⟨cc, rfl⟩ := He.codeIn_ref hcd
    have eg : mg "_law_is_right" = some (.ref (He.ga K "_law_is_right")) := He.glo_ok X G (c.t.d.fact 50 rfl)
    obtain rfl : f = He.ga K "_law_is_right" := by
      have q := g.symm.trans eg
      injection q with q; injection q
    have e : He.codeOf K lamIR = cc := He.codeOf_eq (p := lamIR) lk rfl
    have e1 : (He.cT K lamIR).1 = cc := e
    rw [e1] at t1
    refine ⟨cc, (He.cT K lamIR).2, fun A outer s H E => ⟨t1, rfl, List.mem_cons_self, fun p hp ep => ?_⟩⟩
    rcases List.mem_cons.mp hp with rfl | hp
    · rfl
    · obtain rfl := List.mem_singleton.mp hp
      exact absurd ep.symm ne
end
end K73
/-! K25: the call of law, by a promise at the D level, where nothing is being shown. -/
namespace DL
open PySem PySem.Spec PyProof.Rows L2 LamX
theorem sr_first {K : PySem.W.Frag} {T : List (Addr × Str)} {H : Hp} (h : ∀ p ∈ T, H p.1 = some (.tbl #[])) : SR K T (fun _ => none) H :=
  ⟨fun _ _ z => (by cases z), fun p hp => LamX.TabS.nil (h p hp)⟩
theorem cx_no {P : Program} {w : World} {A : List PySem.Env} {H : Hp} {s s' : Shared} {e : Value} (h : L2.CX P w A H s (fun _ _ _ => False) e s') : False := by
  obtain ⟨_, _, _, _, _, _, _, _, _, _, _, _, z⟩ := h
  exact z
/-- the empty table -/
abbrev tabO : Obj := { cls := .none, data := .fields #[] }
abbrev scrO (vs : List Value) : Obj := { cls := .type "list", data := .seq vs.toArray }
/-- what is known of the start -/
structure Strt (K : PySem.W.Frag) (mg mb : Str → Option Value) (cs : List (Addr × Addr)) (a : Addr) (vs : List Value) (s : Shared) : Prop where
  kin : K.In s.heap
  glob : s.heap.Ns mainGlobals mg
  blt : s.heap.Ns builtinsNs mb
  boot : ∀ x : Str, x ≠ "__name__" → mb x = bootBuiltins x
  lim : s.heap.NoLimit
  gen : s.gens = #[]
  tabs : ∀ p ∈ cs, s.heap.get? p.2 = some tabO
  notK : ∀ p ∈ cs, K.lookup p.2 = none
  hd : ∀ p ∈ cs, PySem.W.CodeHd s.heap p.1 p.2
  bmod : ∃ (bm : Addr) (ob : Obj), mg "__builtins__" = some (.ref bm) ∧ bm ≠ builtinsNs ∧ s.heap.get? bm = some ob ∧ ob.cls = .type "module" ∧ ob.dict = some builtinsNs ∧ ob.data = .plain
  script : s.heap.get? a = some (scrO vs)
section
variable {P : Program} {w : World} {K : PySem.W.Frag} {mg mb : Str → Option Value} {cs : List (Addr × Addr)} {a : Addr} {vs : List Value} {s₁ : Shared} {H : Hp}
/-- what H tracks: the tables, and perhaps the script -/
structure Trk (K : PySem.W.Frag) (cs : List (Addr × Addr)) (a : Addr) (ns : List Int) (H : Hp) : Prop where
  tbl : ∀ p ∈ cs, H p.2 = some (.tbl #[])
  one : ∀ b, H b = none ∨ b ∈ cs.map (·.2) ∨ b = a ∧ K.lookup a = none ∧ ∃ o xs, H b = some (.frz o (.lst xs))
  scr : (∃ o, H a = some (.frz o (.lst (ns.map V.int)))) ∨ ∀ H', SqL K H' a (ns.map V.int)
theorem Strt.ta (S : Strt K mg mb cs a vs s₁) : a ∉ cs.map (·.2) := fun z => by
  obtain ⟨p, hp, e⟩ := List.mem_map.mp z
  have q := S.tabs p hp
  have e' : p.2 = a := e
  rw [e', S.script] at q
  exact absurd (congrArg Obj.data (Option.some.inj q)) (by intro y; cases y)
theorem Strt.free (S : Strt K mg mb cs a vs s₁) {ns : List Int} (t : Trk K cs a ns H) {b : Addr} {o : Obj} (e : s₁.heap.get? b = some o) (n1 : ∀ xs n, o.data ≠ .seq xs n) (n2 : o.data ≠ .fields #[]) : H b = none := by
  rcases t.one b with z | z | ⟨z, _, _⟩
  · exact z
  · obtain ⟨p, hp, ep⟩ := List.mem_map.mp z
    have q := S.tabs p hp
    have ep' : p.2 = b := ep
    rw [ep', e] at q
    exact absurd (congrArg Obj.data (Option.some.inj q)) n2
  · rw [z, S.script] at e
    exact absurd (congrArg Obj.data (Option.some.inj e)).symm (n1 _ _)
theorem Strt.space (S : Strt K mg mb cs a vs s₁) {ns : List Int} (t : Trk K cs a ns H) {b : Addr} {m : Str → Option Value} (h : s₁.heap.Ns b m) : (hidT s₁.heap H).Ns b m := by
  obtain ⟨o, es, ep, e, d, r⟩ := h
  refine ⟨o, es, ep, hidT_get e (S.free t e (fun xs n y => ?_) fun y => ?_), d, r⟩
  · rw [d] at y; cases y
  · rw [d] at y; cases y
theorem Strt.keptK (S : Strt K mg mb cs a vs s₁) {ns : List Int} (t : Trk K cs a ns H) : K.In (hidT s₁.heap H) := fun b o e => by
  refine hidT_get (S.kin b o e) ?_
  rcases t.one b with z | z | ⟨z, k, _⟩
  · exact z
  · obtain ⟨p, hp, ep⟩ := List.mem_map.mp z
    have ep' : p.2 = b := ep
    rw [← ep', S.notK p hp] at e
    cases e
  · rw [z, k] at e
    cases e
theorem Strt.tabB (S : Strt K mg mb cs a vs s₁) {ns : List Int} (t : Trk K cs a ns H) {p : Addr × Addr} (hp : p ∈ cs) : TabB (hidT s₁.heap H) mg p.1 p.2 := by
  have at2 := S.tabs p hp
  refine ⟨?_, ?_, fun y => ?_⟩
  · obtain ⟨o, us, f1, f2, f3, f4, f5, f6, f7, e1, r1, r2, r3, rest⟩ := S.hd p hp
    refine ⟨o, us, f1, f2, f3, f4, f5, f6, f7, hidT_get e1 (S.free t e1 (fun xs n y => ?_) fun y => ?_), r1, r2, r3, rest⟩
    · rw [r2] at y; cases y
    · rw [r2] at y; cases y
      simp at r3
  · obtain ⟨bm, ob, b1, b2, b3, b4, b5, b6⟩ := S.bmod
    refine ⟨bm, ob, b1, b2, fun y => ?_, fun y => ?_, hidT_get b3 (S.free t b3 (fun xs n y => ?_) fun y => ?_), b4, b5, b6⟩
    · obtain ⟨o, es, ep, e, d, _⟩ := S.glob
      rw [y, e] at b3
      obtain rfl := Option.some.inj b3
      rw [d] at b6; cases b6
    · rw [y, at2] at b3
      obtain rfl := Option.some.inj b3
      cases b6
    · rw [b6] at y; cases y
    · rw [b6] at y; cases y
  · obtain ⟨o, es, ep, e, d, _⟩ := S.glob
    rw [y, at2] at e
    obtain rfl := Option.some.inj e
    cases d
/-- the call, H tracked -/
theorem Strt.go (S : Strt K mg mb cs a vs s₁) {ns : List Int} {T : List (Addr × Str)} {k : Nat} {fa : Addr} {fd : FuncData} {x : Str} {sp : DSp} (t : Trk K cs a ns H) (hok : HOk P w H s₁.heap) (hr : Room k callerA) (hT : ∀ p ∈ T, ∃ q ∈ cs, q.2 = p.1)
    (F : ∀ base : Heap, K.In base → base.Ns mainGlobals mg → (∀ p ∈ cs, TabB base mg p.1 p.2) → FG P w K mg base T true k fa fd [x] sp) (hb : ∀ (s : Shared) (u : Value), BindsTo s fd ⟨[u], []⟩ [(x, u)])
    (hsp : ∀ st, sp [.scr (ns.map D.int)] st (fun d _ => d = .bl true) fun _ _ => False) :
    codeAny (model P w) callerA (.call (.ref fa) ⟨[.ref a], []⟩) (fun r s' => r = .ok (.ret (.bool true)) ∧ OldK s₁.heap s'.heap ∧ s'.os = s₁.os ∧ AllBare s'.gens) s₁ := by
  have kb := S.keptK t
  have gb := S.space t S.glob
  obtain ⟨mc, l1, l2⟩ := S.lim
  have md : L2.Mod K mg (hidT s₁.heap H) := ⟨kb, gb, ⟨mb, S.space t S.blt, S.boot⟩, ⟨mc, S.space t l1, l2⟩⟩
  have e0 : Env0 P w K mg (hidT s₁.heap H) callerA [] s₁ H := by
    refine ⟨rfl, md, fun b o e => of_hidT e, Nat.le_of_eq (hidT_size _ _), trivial, fun b q => ?_, hok, .of_eq S.gen⟩
    cases (show b ∈ ([] : List Addr) from q)
  have tt : ∀ p ∈ T, H p.1 = some (.tbl #[]) := fun p hp => by
    obtain ⟨q, hq, e⟩ := hT p hp
    rw [← e]
    exact t.tbl q hq
  have lf : lftF K T sp [.ref a] H (fun v _ => v = .bl true) (fun _ _ _ => False) := by
    refine ⟨[.scr (ns.map D.int)], fun _ => none, fun d _ => d = .bl true, fun _ _ => False, .cons (.scr t.scr Reps.ints) .nil, sr_first tt, hsp _, fun d st v H' _ r _ y => ?_, fun _ _ _ _ _ _ _ _ y => y⟩
    subst y
    cases r
    rfl
  refine codeAny_mono ((F _ kb gb fun p hp => S.tabB t hp).run callerA [] s₁ H ⟨[.ref a], []⟩ [.ref a] [.ref a] _ _ hr (fun _ => rfl) e0 (hb s₁ (.ref a)) (.cons rfl .nil) lf) fun r s' h => ?_
  match r, h with
  | .error e, h => exact (cx_no h).elim
  | .ok .next, h => exact False.elim h
  | .ok .brk, h => exact False.elim h
  | .ok .cont, h => exact False.elim h
  | .ok (.ret u), ⟨v, H', os, bare, un, hok', r', q⟩ =>
    obtain rfl : v = V.bl true := q
    obtain rfl : u = Value.bool true := r'
    have same : ∀ b o, b ∉ cs.map (·.2) → s₁.heap.get? b = some o → s'.heap.get? b = some o := fun b o nb e => by
      rcases t.one b with z | z | ⟨_, _, ob, xs, z⟩
      · exact un.keep b o e z (fun y => by cases (show b ∈ ([] : List Addr) from y)) (by simp)
      · exact absurd z nb
      · obtain ⟨e1, _⟩ := hok b _ z
        obtain ⟨e2, _⟩ := hok' b _ (un.frzs b ob _ z)
        rw [e] at e1
        rw [Option.some.inj e1]
        exact e2
    have grew : ∀ p ∈ cs, ∃ more : Array Value, s'.heap.get? p.2 = some { cls := .none, data := .fields more } := fun p hp => by
      obtain ⟨more, z⟩ := un.tbls p.2 #[] (t.tbl p hp)
      exact ⟨_, hok' p.2 _ z⟩
    refine ⟨rfl, ⟨fun b o e => ?_, fun b o e => ?_⟩, os, bare⟩
    · by_cases m : b ∈ cs.map (·.2)
      · obtain ⟨p, hp, ep⟩ := List.mem_map.mp m
        have ep' : p.2 = b := ep
        subst ep'
        obtain ⟨more, hm⟩ := grew p hp
        rw [S.tabs p hp] at e
        obtain rfl := Option.some.inj e
        exact .inr (.inl ⟨((S.hd p hp).tab (S.tabs p hp)).isCodeTable, rfl, #[], more, rfl, by rw [Array.empty_append]; exact hm⟩)
      · exact .inl (same b o m e)
    · by_cases m : b ∈ cs.map (·.2)
      · obtain ⟨p, hp, ep⟩ := List.mem_map.mp m
        have ep' : p.2 = b := ep
        subst ep'
        obtain ⟨more, hm⟩ := grew p hp
        exact ⟨_, hm⟩
      · exact ⟨o, same b o m e⟩
/-- the call -/
theorem Strt.call (S : Strt K mg mb cs a vs s₁) {ns : List Int} {T : List (Addr × Str)} {k : Nat} {fa : Addr} {fd : FuncData} {x : Str} {sp : DSp} (hi : IntsAre vs ns) (hl : ns.length ≤ sizeLine) (hr : Room k callerA) (hT : ∀ p ∈ T, ∃ q ∈ cs, q.2 = p.1)
    (F : ∀ base : Heap, K.In base → base.Ns mainGlobals mg → (∀ p ∈ cs, TabB base mg p.1 p.2) → FG P w K mg base T true k fa fd [x] sp) (hb : ∀ (s : Shared) (u : Value), BindsTo s fd ⟨[u], []⟩ [(x, u)])
    (hsp : ∀ st, sp [.scr (ns.map D.int)] st (fun d _ => d = .bl true) fun _ _ => False) :
    codeAny (model P w) callerA (.call (.ref fa) ⟨[.ref a], []⟩) (fun r s' => r = .ok (.ret (.bool true)) ∧ OldK s₁.heap s'.heap ∧ s'.os = s₁.os ∧ AllBare s'.gens) s₁ := by
  have rv := vals_ints hi
  have lv := hi.length
  have mem2 : ∀ p ∈ cs, p.2 ∈ cs.map (·.2) := fun p hp => List.mem_map.mpr ⟨p, hp, rfl⟩
  have isTab : ∀ b, b ∈ cs.map (·.2) → s₁.heap.get? b = some tabO := fun b m => by
    obtain ⟨p, hp, ep⟩ := List.mem_map.mp m
    have ep' : p.2 = b := ep
    rw [← ep']
    exact S.tabs p hp
  cases hk : K.lookup a with
  | some o =>
    have e := S.kin a o hk
    rw [S.script] at e
    obtain rfl := Option.some.inj e
    refine S.go (H := fun b => if b ∈ cs.map (·.2) then some (.tbl #[]) else none) ⟨fun p hp => if_pos (mem2 p hp), fun b => ?_, .inr fun H' => .inr ⟨_, vs.toArray, _, hk, rfl, rfl, rfl, by rw [List.size_toArray, lv]; exact hl, by simpa using rv⟩⟩ (fun b u y => ?_) hr hT F hb hsp
    · by_cases m : b ∈ cs.map (·.2)
      · exact .inr (.inl m)
      · exact .inl (if_neg m)
    · by_cases m : b ∈ cs.map (·.2)
      · obtain rfl := Option.some.inj ((if_pos m).symm.trans y)
        exact isTab b m
      · cases (if_neg m).symm.trans y
  | none =>
    refine S.go (H := fun b => if b = a then some (.frz (scrO vs) (.lst (ns.map V.int))) else if b ∈ cs.map (·.2) then some (.tbl #[]) else none)
      ⟨fun p hp => (if_neg (show ¬ p.2 = a from fun y => S.ta (by rw [← y]; exact mem2 p hp))).trans (if_pos (mem2 p hp)), fun b => ?_, .inl ⟨_, if_pos rfl⟩⟩ (fun b u y => ?_) hr hT F hb hsp
    · by_cases q : b = a
      · exact .inr (.inr ⟨q, hk, _, _, if_pos q⟩)
      · by_cases m : b ∈ cs.map (·.2)
        · exact .inr (.inl m)
        · exact .inl ((if_neg q).trans (if_neg m))
    · by_cases q : b = a
      · obtain rfl := Option.some.inj ((if_pos q).symm.trans y)
        rw [q]
        exact ⟨S.script, by rw [List.length_map]; exact hl, vs, _, rv, S.script⟩
      · have y2 := (if_neg q).symm.trans y
        by_cases m : b ∈ cs.map (·.2)
        · obtain rfl := Option.some.inj ((if_pos m).symm.trans y2)
          exact isTab b m
        · cases (if_neg m).symm.trans y2
end
end DL
/-! K26: the row. -/
namespace K73
open PySem PySem.Spec L2 DL
theorem fg_law {P : Program} {w : World} {Γ : Gn} {base : Heap} {T : List (Addr × Str)} {f : Addr} {fd : FuncData} (F : Fx Γ w) (D : DefsK Γ) (L : LamsK P w Γ base T) (FD : FunD Γ.K "law" "law" (defArgs st_law) (defBody st_law) (defScope st_law) [] [] f fd) :
    FG P w Γ.K Γ.mg base T true 45 f fd ["script"] (sp_law Γ) := by
  obtain ⟨oc, od, dV, kV, doc, pm, an, cdv, ct, osl, rfl, lk, hcd, _, _⟩ := FD.ex
  exact fg_of lk hcd sc_law (fun ds st q ex h => by first | (obtain ⟨he, _⟩ := h; subst he; rfl) | (obtain ⟨_, he, _⟩ := h; subst he; rfl) | (obtain ⟨_, _, he, _⟩ := h; subst he; rfl) | (obtain ⟨_, _, _, he, _⟩ := h; subst he; rfl) | (obtain ⟨_, _, _, _, he, _⟩ := h; subst he; rfl) | (obtain ⟨_, _, _, _, _, he, _⟩ := h; subst he; rfl) | (obtain ⟨_, _, _, _, _, _, he, _⟩ := h; subst he; rfl) | (obtain ⟨_, _, _, _, _, _, _, he, _⟩ := h; subst he; rfl) | (obtain ⟨_, _, _, _, _, _, _, _, he, _⟩ := h; subst he; rfl) | (obtain ⟨_, _, _, _, _, _, _, _, _, he, _⟩ := h; subst he; rfl) | (obtain ⟨_, _, _, _, _, _, _, _, _, _, he, _⟩ := h; subst he; rfl)) (t_law Γ) (fun A outer s H E ex C => d_law F (cg__law_hand F D) (cg_is_of F D) (cg_number_of F D) (cg__law_is_right F D L) C) (fun ds st q ex h => pure_law h)
end K73
open PySem PySem.W PySem.Calls PyProof.Rows
theorem PySem.Challenge.cw_firstgap_k73_whole_types_and_numbers_of_holds : PySem.Challenge.rw_firstgap_k73_whole_types_and_numbers_of.Holds := by
  w_on; o_law
  refine HandSHeadRun.head_any (r := K73.RR) (q := view K73.RR.prog [46]) (H := K73.hkK) (ob := K73.obK) (M := 6000) (loose := K73.looseK) (d := HandSHeadRun.topDef K73.RR.prog 46) (kwd := []) K73.obK_eq
    (by kernel_rfl) (fun s => by kernel_rfl) K73.runK (by kernel_rfl) (by kernel_rfl) (by kernel_rfl) (by rfl) (by first | assumption | decide +kernel) (by decide +kernel) ⟨rfl, rfl, rfl, rfl, rfl, by decide +kernel⟩ ?hw ?hc
  case hw => w_witness2
  case hc =>
    refine Att.attach_callB (l := PySem.Challenge.rw_firstgap_k73_whole_types_and_numbers_of) (n := 63) rfl (by kernel_rfl) fun w s₀ s₁ mg mb fa o pm cd doc a vs ns G Y ho hd hcd hmg0 hobj hints hlen hbits hg => ?_
    obtain ⟨K, KX, c⟩ := Y
    have hmg : mg ("law" : PySem.Str) = some (.ref fa) := by
      have e : (HandSHeadRun.topDef K73.RR.prog 46).name = ("law" : PySem.Str) := by kernel_rfl
      rw [← e]
      exact hmg0
    have FX := K73.fx_of KX G.T.g c
    have DX := K73.defs_of KX G.T.g c
    have S : DL.Strt K mg mb (K73.csK K) a vs s₁ := ⟨KX, G.T.g, G.T.b, G.T.builtins, G.T.nolimit, hg, fun p hp => ?t1, fun p hp => ?t2, fun p hp => ?t3, G.T.bmain, hobj⟩
    case t1 =>
      rcases List.mem_cons.mp hp with rfl | hp
      · exact c.empty _ List.mem_cons_self
      · obtain rfl := List.mem_singleton.mp hp
        exact c.empty _ (List.mem_cons_of_mem _ List.mem_cons_self)
    case t2 =>
      rcases List.mem_cons.mp hp with rfl | hp
      · exact c.out _ List.mem_cons_self
      · obtain rfl := List.mem_singleton.mp hp
        exact c.out _ (List.mem_cons_of_mem _ List.mem_cons_self)
    case t3 =>
      rcases List.mem_cons.mp hp with rfl | hp
      · exact codeHd_of_K KX (c.hd _ List.mem_cons_self)
      · obtain rfl := List.mem_singleton.mp hp
        exact codeHd_of_K KX (c.hd _ (List.mem_cons_of_mem _ List.mem_cons_self))
    obtain ⟨f0, fd, g0, FD⟩ := DX.h_law
    have ef : f0 = fa := Value.ref.inj (Option.some.inj (g0.symm.trans hmg))
    subst ef
    have bb : ∀ (s : Shared) (u : Value), BindsTo s fd ⟨[u], []⟩ [("script", u)] := fun s u => L2.FunD.bindsA (ps := ["script"]) FD (fun _ _ _ _ _ _ us hl => match us, hl with | [_], _ => rfl) s [u] rfl
    refine S.call (P := (PySem.Challenge.rw_firstgap_k73_whole_types_and_numbers_of).prog) (w := w) (T := K73.tabsT K) (k := 45) (fd := fd) (x := "script") (sp := K73.sp_law (K73.gnOf K mg)) hints (Nat.le_trans hlen (by decide)) ⟨rfl, by decide, by decide⟩ ?hT ?F bb fun st => ⟨ns, rfl, hlen, fun _ => rfl⟩
    case hT =>
      intro p hp
      rcases List.mem_cons.mp hp with rfl | hp
      · exact ⟨_, List.mem_cons_self, rfl⟩
      · obtain rfl := List.mem_singleton.mp hp
        exact ⟨_, List.mem_cons_of_mem _ List.mem_cons_self, rfl⟩
    case F =>
      intro base kb gb TB
      exact K73.fg_law FX DX (K73.lams_of KX G.T.g c TB) FD
